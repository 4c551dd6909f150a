import PyProof.Rows.All
import Wide.All
import OpenK.AllK
import Wide.FinOn
import HandS.ForMost
import HandS.Flow
import HandS.Exc
import HandS.ExcOwn
import HandS.TryOnly
import HandS.WordsExc
import HandS.IsInst
import HandS.TupAny
import HandS.TupMul
import HandS.Deep
import HandS.Conv
import HandS.Style
import HandS.Zip
import HandS.Defaults
import HandS.Text
import HandS.RaiseMore
import PyProof.Rows.StrRev
import PyProof.SliceStr2
import HandS.Strs
import HandS.SetKeys
import HandS.Dict
import HandS.More
import KE.SortData
import KE.OsSortAny
import KE.GoesMore
import KE.GoesEnum
import HandS.StrMore
import HandS.SortKw
import HandS.TryMany
import HandS.HeadEnd
import HandS.HeadHook2
import HandS.HeadHook3
import PySem.Challenge.RW_trybook_k10_whole_wishes_as_texts
import KE.KStateDown
import Lean
import HandS.Codes
import HandS.Head0
import HandS.Head1
import HandS.Head2
set_option Elab.async false
set_option linter.all false
set_option maxRecDepth 100000
set_option maxHeartbeats 4000000
/-! TB0: data, the store, and how they stand in the abstract heap of the hand layer -/
namespace TB
open PySem PySem.Spec L2

/-- a value of mine: tuples and lists that are never changed are values; ref n: the n-th object of the store -/
inductive D where
  | non | bl (b : Bool) | int (i : Int) | str (x : Str) | tup (l : List D) | lst (l : List D) | ref (n : Nat) | fn (f : Str) | scr (l : List Int)
  deriving Inhabited

/-- an object that may change -/
inductive MO where
  | lst (l : List D) | dct (kvs : List (Key × D)) | ins (c : Str) (fs : List (Str × D))
  deriving Inhabited

abbrev Sto := List MO

mutual
def D.py : D → Option PyData
  | .non => some .none
  | .bl b => some (.bool b)
  | .int i => some (.int i)
  | .str x => some (.str x)
  | .tup l => (D.pys l).map .tuple
  | .lst l => (D.pys l).map .list
  | .ref _ => none
  | .fn _ => none
  | .scr _ => none
def D.pys : List D → Option (List PyData)
  | [] => some []
  | d :: l => do let a ← D.py d; let b ← D.pys l; pure (a :: b)
end

/-! ### how values stand -/
/-- a list of the written part -/
def KL (K : PySem.W.Frag) (a : Addr) (xs : List V) : Prop :=
  ∃ (o : Obj) (its : Array Value) (n : Nat), K.lookup a = some o ∧ o.cls = .type "list" ∧ o.dict = none ∧ o.data = .seq its n ∧ its.size ≤ sizeLine ∧ Vals xs its.toList
/-- a list that is never changed -/
def FrL (H : Hp) (al be : List Addr) (a : Addr) (xs : List V) : Prop := H a = some (.lst xs) ∧ a ∉ al ∧ a ∉ be
/-- the script -/
def ScL (K : PySem.W.Frag) (H : Hp) (a : Addr) (xs : List V) : Prop := (∃ o, H a = some (.frz o (.lst xs))) ∨ KL K a xs
theorem FrL.sq {K : PySem.W.Frag} {H : Hp} {al be : List Addr} {a : Addr} {xs : List V} (h : FrL H al be a xs) : SqL K H a xs := .of h.1
theorem ScL.sq {K : PySem.W.Frag} {H : Hp} {a : Addr} {xs : List V} (h : ScL K H a xs) : SqL K H a xs := by
  rcases h with h | h
  · exact .inl (.inr h)
  · exact .inr h

mutual
inductive RV (K : PySem.W.Frag) (gf : Str → Option Addr) (H : Hp) (al be : List Addr) : D → V → Prop
  | non : RV K gf H al be .non .non
  | bl (b : Bool) : RV K gf H al be (.bl b) (.bl b)
  | int (i : Int) : RV K gf H al be (.int i) (.int i)
  | str {x : Str} : PyData.strOk x = true → x.length ≤ sizeLine → RV K gf H al be (.str x) (.str x)
  | tup {a : Addr} {ds : List D} {vs : List V} : SqT K H a vs → RVs K gf H al be ds vs → ds.length ≤ sizeLine → RV K gf H al be (.tup ds) (.ref a)
  | lst {a : Addr} {ds : List D} {vs : List V} : FrL H al be a vs → RVs K gf H al be ds vs → ds.length ≤ sizeLine → RV K gf H al be (.lst ds) (.ref a)
  | ref {n : Nat} {a : Addr} : al[n]? = some a → RV K gf H al be (.ref n) (.ref a)
  | fn {f : Str} {a : Addr} : gf f = some a → RV K gf H al be (.fn f) (.ref a)
  | scr {a : Addr} {l : List Int} : ScL K H a (l.map V.int) → l.length ≤ sizeLine → RV K gf H al be (.scr l) (.ref a)
inductive RVs (K : PySem.W.Frag) (gf : Str → Option Addr) (H : Hp) (al be : List Addr) : List D → List V → Prop
  | nil : RVs K gf H al be [] []
  | cons {d : D} {v : V} {ds : List D} {vs : List V} : RV K gf H al be d v → RVs K gf H al be ds vs → RVs K gf H al be (d :: ds) (v :: vs)
end

section
variable {K : PySem.W.Frag} {gf : Str → Option Addr} {H H1 H2 : Hp} {al al1 al2 be be1 be2 : List Addr} {st : Sto}

/-- what grows from (H, al) to (H1, al1) -/
structure Gr (K : PySem.W.Frag) (be : List Addr) (H : Hp) (al : List Addr) (be1 : List Addr) (H1 : Hp) (al1 : List Addr) : Prop where
  pre : ∃ de, al1 = al ++ de
  tup : ∀ a xs, SqT K H a xs → SqT K H1 a xs
  frl : ∀ a xs, FrL H al be a xs → FrL H1 al1 be1 a xs
  scr : ∀ a xs, ScL K H a xs → ScL K H1 a xs
structure Ext (K : PySem.W.Frag) (be : List Addr) (H : Hp) (al : List Addr) (H1 : Hp) (al1 : List Addr) : Prop extends Gr K be H al be H1 al1 where
  res : ∀ b ∈ be, H1 b = H b
theorem Gr.refl : Gr K be H al be H al := ⟨⟨[], by simp⟩, fun _ _ h => h, fun _ _ h => h, fun _ _ h => h⟩
theorem Gr.trans (a : Gr K be H al be1 H1 al1) (b : Gr K be1 H1 al1 be2 H2 al2) : Gr K be H al be2 H2 al2 := by
  obtain ⟨d1, e1⟩ := a.pre
  obtain ⟨d2, e2⟩ := b.pre
  exact ⟨⟨d1 ++ d2, by rw [e2, e1, List.append_assoc]⟩, fun x y h => b.tup x y (a.tup x y h), fun x y h => b.frl x y (a.frl x y h), fun x y h => b.scr x y (a.scr x y h)⟩
theorem Ext.refl : Ext K be H al H al := ⟨Gr.refl, fun _ _ => rfl⟩
theorem Ext.trans (a : Ext K be H al H1 al1) (b : Ext K be H1 al1 H2 al2) : Ext K be H al H2 al2 := ⟨a.toGr.trans b.toGr, fun x hx => (b.res x hx).trans (a.res x hx)⟩

mutual
theorem RV.gr (e : Gr K be H al be1 H1 al1) : ∀ {d : D} {v : V}, RV K gf H al be d v → RV K gf H1 al1 be1 d v
  | _, _, .non => .non
  | _, _, .bl b => .bl b
  | _, _, .int i => .int i
  | _, _, .str h h' => .str h h'
  | _, _, .tup h hs z => .tup (e.tup _ _ h) (RVs.gr e hs) z
  | _, _, .lst h hs z => .lst (e.frl _ _ h) (RVs.gr e hs) z
  | _, _, .ref h => by
    obtain ⟨de, q⟩ := e.pre
    refine .ref ?_
    rw [q, List.getElem?_append_left (List.getElem?_eq_some_iff.mp h).1]
    exact h
  | _, _, .fn h => .fn h
  | _, _, .scr h z => .scr (e.scr _ _ h) z
theorem RVs.gr (e : Gr K be H al be1 H1 al1) : ∀ {ds : List D} {vs : List V}, RVs K gf H al be ds vs → RVs K gf H1 al1 be1 ds vs
  | _, _, .nil => .nil
  | _, _, .cons h hs => .cons (RV.gr e h) (RVs.gr e hs)
end
theorem RV.ext (e : Ext K be H al H1 al1) {d : D} {v : V} (h : RV K gf H al be d v) : RV K gf H1 al1 be d v := h.gr e.toGr
theorem RVs.ext (e : Ext K be H al H1 al1) {d : List D} {v : List V} (h : RVs K gf H al be d v) : RVs K gf H1 al1 be d v := h.gr e.toGr

theorem RVs.length : ∀ {ds : List D} {vs : List V}, RVs K gf H al be ds vs → ds.length = vs.length
  | _, _, .nil => rfl
  | _, _, .cons _ hs => by rw [List.length_cons, List.length_cons, RVs.length hs]
theorem RVs.get : ∀ {ds : List D} {vs : List V} {i : Nat} {d : D}, RVs K gf H al be ds vs → ds[i]? = some d → ∃ v, vs[i]? = some v ∧ RV K gf H al be d v
  | _, _, _, _, .nil, e => by simp at e
  | _, _, 0, _, .cons h _, e => by simp at e; subst e; exact ⟨_, rfl, h⟩
  | _, _, i + 1, d, .cons _ hs, e => by
    obtain ⟨v, h1, h2⟩ := RVs.get (i := i) (d := d) hs (by simpa using e)
    exact ⟨v, by simpa using h1, h2⟩
theorem RVs.get' : ∀ {ds : List D} {vs : List V} {i : Nat} {v : V}, RVs K gf H al be ds vs → vs[i]? = some v → ∃ d, ds[i]? = some d ∧ RV K gf H al be d v
  | _, _, _, _, .nil, e => by simp at e
  | _, _, 0, _, .cons h _, e => by simp at e; subst e; exact ⟨_, rfl, h⟩
  | _, _, i + 1, d, .cons _ hs, e => by
    obtain ⟨v, h1, h2⟩ := RVs.get' (i := i) (v := d) hs (by simpa using e)
    exact ⟨v, by simpa using h1, h2⟩
theorem RVs.append : ∀ {ds es : List D} {vs us : List V}, RVs K gf H al be ds vs → RVs K gf H al be es us → RVs K gf H al be (ds ++ es) (vs ++ us)
  | _, _, _, _, .nil, h => h
  | _, _, _, _, .cons h hs, k => .cons h (RVs.append hs k)
theorem RVs.take : ∀ {ds : List D} {vs : List V} (n : Nat), RVs K gf H al be ds vs → RVs K gf H al be (ds.take n) (vs.take n)
  | _, _, 0, _ => .nil
  | _, _, _ + 1, .nil => .nil
  | _, _, n + 1, .cons h hs => .cons h (RVs.take n hs)
theorem RVs.drop : ∀ {ds : List D} {vs : List V} (n : Nat), RVs K gf H al be ds vs → RVs K gf H al be (ds.drop n) (vs.drop n)
  | _, _, 0, h => h
  | _, _, _ + 1, .nil => .nil
  | _, _, n + 1, .cons _ hs => RVs.drop n hs
theorem RVs.reverse : ∀ {ds : List D} {vs : List V}, RVs K gf H al be ds vs → RVs K gf H al be ds.reverse vs.reverse
  | _, _, .nil => .nil
  | _, _, .cons h hs => by
    rw [List.reverse_cons, List.reverse_cons]
    exact (RVs.reverse hs).append (.cons h .nil)
theorem RVs.set {d : D} {v : V} (r : RV K gf H al be d v) : ∀ {ds : List D} {vs : List V} (i : Nat), RVs K gf H al be ds vs → RVs K gf H al be (ds.set i d) (vs.set i v)
  | _, _, _, .nil => .nil
  | _, _, 0, .cons _ hs => .cons r hs
  | _, _, i + 1, .cons h hs => .cons h (RVs.set r i hs)
theorem RVs.eraseIdx : ∀ {ds : List D} {vs : List V} (i : Nat), RVs K gf H al be ds vs → RVs K gf H al be (ds.eraseIdx i) (vs.eraseIdx i)
  | _, _, _, .nil => .nil
  | _, _, 0, .cons _ hs => hs
  | _, _, i + 1, .cons h hs => .cons h (RVs.eraseIdx i hs)
theorem RVs.rep {ds : List D} {vs : List V} (h : RVs K gf H al be ds vs) : ∀ k : Nat, RVs K gf H al be (List.replicate k ds).flatten (List.replicate k vs).flatten
  | 0 => .nil
  | k + 1 => by
    rw [List.replicate_succ, List.replicate_succ, List.flatten_cons, List.flatten_cons]
    exact h.append (RVs.rep h k)

/-! data that hold no object: as the layer reads them -/
mutual
theorem RV.dp : ∀ {d : D} {v : V} {p : PyData}, RV K gf H al be d v → d.py = some p → Dp K H v p ∧ p.canLay0 = true
  | _, _, _, .non, e => by cases e; exact ⟨.non, rfl⟩
  | _, _, _, .bl b, e => by cases e; exact ⟨.bl b, rfl⟩
  | _, _, _, .int i, e => by cases e; exact ⟨.int i, rfl⟩
  | _, _, _, .str h _, e => by cases e; exact ⟨.str _, h⟩
  | .tup ds, _, p, .tup h hs _, e => by
    simp only [D.py, Option.map_eq_some_iff] at e
    obtain ⟨ps, e1, rfl⟩ := e
    obtain ⟨q1, q2⟩ := RVs.dp hs e1
    exact ⟨.tup h q1, by simpa only [PyData.canLay0] using q2⟩
  | .lst ds, _, p, .lst h hs _, e => by
    simp only [D.py, Option.map_eq_some_iff] at e
    obtain ⟨ps, e1, rfl⟩ := e
    obtain ⟨q1, q2⟩ := RVs.dp hs e1
    exact ⟨.lst h.sq q1, by simpa only [PyData.canLay0] using q2⟩
  | _, _, _, .ref _, e => by cases e
  | _, _, _, .fn _, e => by cases e
  | _, _, _, .scr _ _, e => by cases e
theorem RVs.dp : ∀ {ds : List D} {vs : List V} {ps : List PyData}, RVs K gf H al be ds vs → D.pys ds = some ps → DpAll K H vs ps ∧ PyData.canLayAll0 ps = true
  | _, _, _, .nil, e => by cases e; exact ⟨.nil, rfl⟩
  | d :: ds, _, ps, .cons h hs, e => by
    simp only [D.pys, Option.bind_eq_bind, Option.bind_eq_some_iff, Option.pure_def, Option.some.injEq] at e
    obtain ⟨a, e1, b, e2, rfl⟩ := e
    obtain ⟨q1, q2⟩ := RV.dp h e1
    obtain ⟨q3, q4⟩ := RVs.dp hs e2
    exact ⟨.cons q1 q3, by simp only [PyData.canLayAll0, q2, q4]; rfl⟩
end

/-! ### the store -/
/-- pairs by equal keys -/
inductive RPs (K : PySem.W.Frag) (gf : Str → Option Addr) (H : Hp) (al be : List Addr) {ka : Type} : List (ka × D) → List (ka × V) → Prop
  | nil : RPs K gf H al be [] []
  | cons {k : ka} {d : D} {v : V} {ds : List (ka × D)} {vs : List (ka × V)} : RV K gf H al be d v → RPs K gf H al be ds vs → RPs K gf H al be ((k, d) :: ds) ((k, v) :: vs)
theorem RPs.gr {ka : Type} (e : Gr K be H al be1 H1 al1) : ∀ {ds : List (ka × D)} {vs : List (ka × V)}, RPs K gf H al be ds vs → RPs K gf H1 al1 be1 ds vs
  | _, _, .nil => .nil
  | _, _, .cons h hs => .cons (h.gr e) (RPs.gr e hs)
theorem RPs.ext {ka : Type} (e : Ext K be H al H1 al1) {ds : List (ka × D)} {vs : List (ka × V)} (h : RPs K gf H al be ds vs) : RPs K gf H1 al1 be ds vs := h.gr e.toGr
theorem RPs.length {ka : Type} : ∀ {ds : List (ka × D)} {vs : List (ka × V)}, RPs K gf H al be ds vs → ds.length = vs.length
  | _, _, .nil => rfl
  | _, _, .cons _ hs => by rw [List.length_cons, List.length_cons, RPs.length hs]

/-- a key that may be told again -/
def keyOk : Key → Prop
  | .inl _ => True
  | .inr x => PyData.strOk x = true ∧ x.length ≤ sizeLine
def KsOk (kvs : List (Key × D)) : Prop := ∀ kv ∈ kvs, keyOk kv.1
/-- an object of the store, at its address -/
def RO (K : PySem.W.Frag) (gf : Str → Option Addr) (H : Hp) (al be : List Addr) (a : Addr) : MO → Prop
  | .lst ds => ∃ vs, H a = some (.lst vs) ∧ RVs K gf H al be ds vs ∧ ds.length ≤ sizeLine
  | .dct kvs => ∃ ws, H a = some (.dK ws) ∧ RPs K gf H al be kvs ws ∧ KsOk kvs
  | .ins c fs => ∃ C dx gs, H a = some (.ins C dx gs) ∧ H dx = some (.own a) ∧ gf c = some C ∧ RPs K gf H al be fs gs

structure SR (K : PySem.W.Frag) (gf : Str → Option Addr) (H : Hp) (al be : List Addr) (st : Sto) : Prop where
  len : al.length = st.length
  nd : al.Nodup
  dis : ∀ b ∈ be, b ∉ al
  res : ∀ b ∈ be, ∃ vs, H b = some (.lst vs)
  obj : ∀ (i : Nat) o a, st[i]? = some o → al[i]? = some a → RO K gf H al be a o

theorem RO.gr (e : Gr K be H al be1 H1 al1) {a : Addr} (h0 : H1 a = H a) (h1 : ∀ dx, H dx = some (.own a) → H1 dx = some (.own a)) : ∀ {o : MO}, RO K gf H al be a o → RO K gf H1 al1 be1 a o
  | .lst ds, ⟨vs, q, r, z⟩ => ⟨vs, h0.trans q, r.gr e, z⟩
  | .dct kvs, ⟨ws, q, r, z⟩ => ⟨ws, h0.trans q, r.gr e, z⟩
  | .ins c fs, ⟨C, dx, gs, q, q1, q2, r⟩ => ⟨C, dx, gs, h0.trans q, h1 _ q1, q2, r.gr e⟩
theorem RO.ext (e : Ext K be H al H1 al1) {a : Addr} (h0 : H1 a = H a) (h1 : ∀ dx, H dx = some (.own a) → H1 dx = some (.own a)) : ∀ {o : MO}, RO K gf H al be a o → RO K gf H1 al1 be a o
  | .lst ds, ⟨vs, q, r, z⟩ => ⟨vs, h0.trans q, r.ext e, z⟩
  | .dct kvs, ⟨ws, q, r, z⟩ => ⟨ws, h0.trans q, r.ext e, z⟩
  | .ins c fs, ⟨C, dx, gs, q, q1, q2, r⟩ => ⟨C, dx, gs, h0.trans q, h1 _ q1, q2, r.ext e⟩
theorem RO.mut {a : Addr} : ∀ {o : MO}, RO K gf H al be a o → Mut (H a)
  | .lst ds, ⟨vs, q, r⟩ => by rw [q]; trivial
  | .dct kvs, ⟨ws, q, r⟩ => by rw [q]; trivial
  | .ins c fs, ⟨C, dx, gs, q, _⟩ => by rw [q]; trivial

theorem SR.at (S : SR K gf H al be st) {i : Nat} {o : MO} (h : st[i]? = some o) : ∃ a, al[i]? = some a ∧ RO K gf H al be a o := by
  have hl : i < al.length := by rw [S.len]; exact (List.getElem?_eq_some_iff.mp h).1
  exact ⟨al[i], by simp [hl], S.obj i o _ h (by simp [hl])⟩
theorem SR.at' (S : SR K gf H al be st) {i : Nat} {a : Addr} (h : al[i]? = some a) : ∃ o, st[i]? = some o ∧ RO K gf H al be a o := by
  have hl : i < st.length := by rw [← S.len]; exact (List.getElem?_eq_some_iff.mp h).1
  exact ⟨st[i], by simp [hl], S.obj i _ a (by simp [hl]) h⟩
theorem SR.mem (S : SR K gf H al be st) {a : Addr} (h : a ∈ al) : ∃ o, RO K gf H al be a o := by
  obtain ⟨i, hi⟩ := List.mem_iff_getElem?.mp h
  obtain ⟨o, _, r⟩ := S.at' hi
  exact ⟨o, r⟩

/-- a new object that is no store object: a tuple, a list that stays -/
theorem Ext.new {p : Addr} {o : HO} (hp : H p = none) (S : SR K gf H al be st) : Ext K be H al (upd H p o) al := by
  refine ⟨⟨⟨[], by simp⟩, fun a xs h => ?_, fun a xs h => ?_, fun a xs h => ?_⟩, fun b hb => ?_⟩
  · rcases h with (h | ⟨ob, h⟩) | h
    · exact .inl (.inl (by rw [upd_ne (ne_of_none h hp)]; exact h))
    · exact .inl (.inr ⟨ob, by rw [upd_ne (ne_of_none h hp)]; exact h⟩)
    · exact .inr h
  · obtain ⟨h, h1⟩ := h
    exact ⟨by rw [upd_ne (ne_of_none h hp)]; exact h, h1⟩
  · rcases h with ⟨ob, h⟩ | h
    · exact .inl ⟨ob, by rw [upd_ne (ne_of_none h hp)]; exact h⟩
    · exact .inr h
  · obtain ⟨vs, q⟩ := S.res b hb
    rw [upd_ne (ne_of_none q hp)]
theorem SR.new {p : Addr} {o : HO} (hp : H p = none) (S : SR K gf H al be st) : SR K gf (upd H p o) al be st := by
  have e := Ext.new (o := o) hp S
  refine ⟨S.len, S.nd, S.dis, fun b hb => ?_, fun i ob a h1 h2 => ?_⟩
  · obtain ⟨vs, q⟩ := S.res b hb
    exact ⟨vs, (e.res b hb).trans q⟩
  · have r := S.obj i ob a h1 h2
    have hne : a ≠ p := fun z => by
      have := r.mut
      rw [z, hp] at this
      exact this
    exact r.ext e (upd_ne hne) fun dx q => by rw [upd_ne (ne_of_none q hp)]; exact q
/-- .. and it becomes a store object -/
theorem Ext.push {p : Addr} {o : HO} (hp : H p = none) (S : SR K gf H al be st) : Ext K be H al (upd H p o) (al ++ [p]) := by
  have e := Ext.new (o := o) hp S
  refine ⟨⟨⟨[p], rfl⟩, e.tup, fun a xs h => ?_, e.scr⟩, e.res⟩
  obtain ⟨h, h1, h2⟩ := h
  have hne : a ≠ p := ne_of_none h hp
  refine ⟨by rw [upd_ne hne]; exact h, ?_, h2⟩
  simp only [List.mem_append, List.mem_singleton, not_or]
  exact ⟨h1, hne⟩
theorem SR.push {p : Addr} {o : HO} {mo : MO} (hp : H p = none) (S : SR K gf H al be st) (r : RO K gf (upd H p o) (al ++ [p]) be p mo) : SR K gf (upd H p o) (al ++ [p]) be (st ++ [mo]) := by
  have e := Ext.push (o := o) hp S
  have npal : p ∉ al := fun h => by
    obtain ⟨ob, r⟩ := S.mem h
    have := r.mut
    rw [hp] at this
    exact this
  refine ⟨by simp [S.len], ?_, fun b hb => ?_, fun b hb => ?_, fun i ob a h1 h2 => ?_⟩
  · rw [List.nodup_append]
    exact ⟨S.nd, by simp, fun a ha b hb => by simp at hb; subst hb; rintro rfl; exact npal ha⟩
  · obtain ⟨vs, q⟩ := S.res b hb
    simp only [List.mem_append, List.mem_singleton, not_or]
    exact ⟨S.dis b hb, ne_of_none q hp⟩
  · obtain ⟨vs, q⟩ := S.res b hb
    exact ⟨vs, (e.res b hb).trans q⟩
  · by_cases hi : i < st.length
    · rw [List.getElem?_append_left hi] at h1
      rw [List.getElem?_append_left (by rw [S.len]; exact hi)] at h2
      have r' := S.obj i ob a h1 h2
      have hne : a ≠ p := fun z => by
        have := r'.mut
        rw [z, hp] at this
        exact this
      exact r'.ext e (upd_ne hne) fun dx q => by rw [upd_ne (ne_of_none q hp)]; exact q
    · have hi' : i = st.length := by
        have := (List.getElem?_eq_some_iff.mp h1).1
        simp at this; omega
      subst hi'
      rw [List.getElem?_append_right (Nat.le_refl _)] at h1
      rw [List.getElem?_append_right (by rw [S.len]; exact Nat.le_refl _)] at h2
      simp [S.len] at h1 h2
      subst h1 h2
      exact r
/-- an object of the store is changed -/
theorem Ext.write {i : Nat} {a : Addr} {o : HO} (S : SR K gf H al be st) (ha : al[i]? = some a) : Ext K be H al (upd H a o) al := by
  have hmem : a ∈ al := List.mem_of_getElem? ha
  obtain ⟨ob, r⟩ := S.mem hmem
  have mu := r.mut
  refine ⟨⟨⟨[], by simp⟩, fun b xs h => ?_, fun b xs h => ?_, fun b xs h => ?_⟩, fun b hb => ?_⟩
  · rcases h with (h | ⟨ob, h⟩) | h
    · have hne : b ≠ a := fun z => by rw [← z, h] at mu; exact mu
      exact .inl (.inl (by rw [upd_ne hne]; exact h))
    · have hne : b ≠ a := fun z => by rw [← z, h] at mu; exact mu
      exact .inl (.inr ⟨ob, by rw [upd_ne hne]; exact h⟩)
    · exact .inr h
  · obtain ⟨h, h1, h2⟩ := h
    have hne : b ≠ a := fun z => h1 (z ▸ hmem)
    exact ⟨by rw [upd_ne hne]; exact h, h1, h2⟩
  · rcases h with ⟨ob, h⟩ | h
    · have hne : b ≠ a := fun z => by rw [← z, h] at mu; exact mu
      exact .inl ⟨ob, by rw [upd_ne hne]; exact h⟩
    · exact .inr h
  · exact upd_ne fun z => S.dis b hb (z ▸ hmem)
theorem SR.write {i : Nat} {a : Addr} {o : HO} {mo : MO} (S : SR K gf H al be st) (ha : al[i]? = some a) (r : RO K gf (upd H a o) al be a mo) : SR K gf (upd H a o) al be (st.set i mo) := by
  have e := Ext.write (o := o) S ha
  have hmem : a ∈ al := List.mem_of_getElem? ha
  obtain ⟨ob0, r0⟩ := S.mem hmem
  have mu := r0.mut
  refine ⟨by simp [S.len], S.nd, S.dis, fun b hb => ?_, fun j ob b h1 h2 => ?_⟩
  · obtain ⟨vs, q⟩ := S.res b hb
    exact ⟨vs, (e.res b hb).trans q⟩
  · by_cases hj : j = i
    · subst hj
      have hl : j < st.length := by rw [← S.len]; exact (List.getElem?_eq_some_iff.mp ha).1
      rw [List.getElem?_set_self hl] at h1
      rw [ha] at h2
      cases h1; cases h2
      exact r
    · rw [List.getElem?_set_ne (Ne.symm hj)] at h1
      have r' := S.obj j ob b h1 h2
      have hne : b ≠ a := fun z => by
        subst z
        obtain ⟨x1, y1⟩ := List.getElem?_eq_some_iff.mp h2
        obtain ⟨x2, y2⟩ := List.getElem?_eq_some_iff.mp ha
        exact hj ((List.getElem_inj S.nd).mp (y1.trans y2.symm))
      exact r'.ext e (upd_ne hne) fun dx q => by
        have : dx ≠ a := fun z => by rw [← z, q] at mu; exact mu
        rw [upd_ne this]; exact q
end
end TB
set_option Elab.async false
set_option linter.all false
set_option maxRecDepth 100000
set_option maxHeartbeats 4000000
/-! TB1: the monad, what a reading by it is, expressions -/
namespace TB
open PySem PySem.Spec L2

inductive Res (τ : Type) where
  | ok (t : τ) | exn (c : Str)
abbrev M (τ : Type) := Sto → Option (Res τ × Sto)
namespace M
variable {τ υ : Type}
def pure (t : τ) : M τ := fun st => some (.ok t, st)
def bind (m : M τ) (f : τ → M υ) : M υ := fun st => match m st with
  | none => none
  | some (.ok t, st1) => f t st1
  | some (.exn c, st1) => some (.exn c, st1)
def stuck : M τ := fun _ => none
/-- a look at the store -/
def look (f : Sto → Option τ) : M τ := fun st => match f st with
  | none => none
  | some t => some (.ok t, st)
def quiet (m : M τ) : M τ := fun st => match m st with
  | some (.ok t, st1) => some (.ok t, st1)
  | _ => none
end M
instance : Monad M where
  pure := M.pure
  bind := M.bind
@[simp] theorem M.bind_eq {τ υ : Type} (m : M τ) (f : τ → M υ) : (m >>= f) = M.bind m f := rfl
@[simp] theorem M.pure_eq {τ : Type} (t : τ) : (Pure.pure t : M τ) = M.pure t := rfl

theorem M.bind_ok {τ υ : Type} {m : M τ} {f : τ → M υ} {st st2 : Sto} {t : υ} (h : M.bind m f st = some (.ok t, st2)) : ∃ a st1, m st = some (.ok a, st1) ∧ f a st1 = some (.ok t, st2) := by
  unfold M.bind at h
  split at h
  · cases h
  · exact ⟨_, _, by assumption, h⟩
  · cases h
theorem M.bind_exn {τ υ : Type} {m : M τ} {f : τ → M υ} {st st2 : Sto} {c : Str} (h : M.bind m f st = some (.exn c, st2)) : m st = some (.exn c, st2) ∨ ∃ a st1, m st = some (.ok a, st1) ∧ f a st1 = some (.exn c, st2) := by
  unfold M.bind at h
  split at h
  · cases h
  · exact .inr ⟨_, _, by assumption, h⟩
  · cases h; exact .inl (by assumption)
theorem M.bind_of {τ υ : Type} {m : M τ} {f : τ → M υ} {st st1 : Sto} {a : τ} (h : m st = some (.ok a, st1)) : M.bind m f st = f a st1 := by
  unfold M.bind; rw [h]
theorem M.quiet_ok {τ : Type} {m : M τ} {st st1 : Sto} {a : τ} (h : M.quiet m st = some (.ok a, st1)) : m st = some (.ok a, st1) := by
  unfold M.quiet at h
  split at h
  · rename_i h1; cases h; exact h1
  · cases h
theorem M.quiet_exn {τ : Type} {m : M τ} {st st1 : Sto} {c : Str} (h : M.quiet m st = some (.exn c, st1)) : False := by
  unfold M.quiet at h
  split at h <;> cases h
abbrev Lo := List (Option D)

section
variable {τ υ : Type} {K : PySem.W.Frag} {gf : Str → Option Addr} {be : List Addr}

/-- what is wanted behind a run -/
def Post (K : PySem.W.Frag) (gf : Str → Option Addr) (be : List Addr) (W : Str → Hp → Prop) (H : Hp) (al : List Addr) (r : Option (Res τ × Sto)) (k : τ → Sto → Hp → List Addr → Prop) : Prop :=
  match r with
  | none => False
  | some (.ok t, st1) => ∀ H1 al1, SR K gf H1 al1 be st1 → Ext K be H al H1 al1 → k t st1 H1 al1
  | some (.exn c, st1) => ∀ H1 al1, SR K gf H1 al1 be st1 → Ext K be H al H1 al1 → W c H1
theorem Post.mono {W : Str → Hp → Prop} {H : Hp} {al : List Addr} {r : Option (Res τ × Sto)} {k k' : τ → Sto → Hp → List Addr → Prop} (p : Post K gf be W H al r k)
    (h : ∀ t st1 H1 al1, SR K gf H1 al1 be st1 → Ext K be H al H1 al1 → k t st1 H1 al1 → k' t st1 H1 al1) : Post K gf be W H al r k' := by
  match r, p with
  | some (.ok t, st1), p => exact fun H1 al1 S e => h t st1 H1 al1 S e (p H1 al1 S e)
  | some (.exn c, st1), p => exact p
theorem Post.ext {W : Str → Hp → Prop} {H H1 : Hp} {al al1 : List Addr} {r : Option (Res τ × Sto)} {k : τ → Sto → Hp → List Addr → Prop} (p : Post K gf be W H al r k) (e : Ext K be H al H1 al1) : Post K gf be W H1 al1 r k := by
  match r, p with
  | some (.ok t, st1), p => exact fun H2 al2 S e2 => p H2 al2 S (e.trans e2)
  | some (.exn c, st1), p => exact fun H2 al2 S e2 => p H2 al2 S (e.trans e2)
theorem Post.bind {W : Str → Hp → Prop} {H : Hp} {al : List Addr} {st : Sto} {m : M τ} {f : τ → M υ} {k : υ → Sto → Hp → List Addr → Prop} (p : Post K gf be W H al (M.bind m f st) k) :
    Post K gf be W H al (m st) (fun t st1 H1 al1 => Post K gf be W H1 al1 (f t st1) k) := by
  unfold M.bind at p
  match h : m st with
  | none => rw [h] at p; exact p
  | some (.ok t, st1) => rw [h] at p; exact fun H1 al1 S e => p.ext e
  | some (.exn c, st1) => rw [h] at p; exact p
theorem Post.ok {W : Str → Hp → Prop} {H : Hp} {al : List Addr} {t : τ} {st1 : Sto} {k : τ → Sto → Hp → List Addr → Prop} (p : Post K gf be W H al (some (.ok t, st1)) k) (S : SR K gf H al be st1) : k t st1 H al := p H al S Ext.refl
theorem Post.look {W : Str → Hp → Prop} {H : Hp} {al : List Addr} {st : Sto} {f : Sto → Option τ} {k : τ → Sto → Hp → List Addr → Prop} (p : Post K gf be W H al (M.look f st) k) (S : SR K gf H al be st) : ∃ t, f st = some t ∧ k t st H al := by
  unfold M.look at p
  match h : f st with
  | none => rw [h] at p; exact p.elim
  | some t => rw [h] at p; exact ⟨t, rfl, p.ok S⟩
theorem Post.quiet {W W' : Str → Hp → Prop} {H : Hp} {al : List Addr} {st : Sto} {m : M τ} {k : τ → Sto → Hp → List Addr → Prop} (p : Post K gf be W H al (M.quiet m st) k) : Post K gf be W' H al (m st) k := by
  unfold M.quiet at p
  match h : m st with
  | none => rw [h] at p; exact p
  | some (.ok t, st1) => rw [h] at p; exact p
  | some (.exn c, st1) => rw [h] at p; exact p.elim

/-- the slots -/
structure RS (K : PySem.W.Frag) (gf : Str → Option Addr) (H : Hp) (al be : List Addr) (ρ : Lo) (σ : St) : Prop where
  len : ρ.length = σ.length
  val : ∀ (i : Nat) d, ρ[i]? = some (some d) → ∃ v, σ[i]? = some (some v) ∧ RV K gf H al be d v
theorem RS.ext {H H1 : Hp} {al al1 : List Addr} {ρ : Lo} {σ : St} (L : RS K gf H al be ρ σ) (e : Ext K be H al H1 al1) : RS K gf H1 al1 be ρ σ :=
  ⟨L.len, fun i d h => let ⟨v, h1, h2⟩ := L.val i d h; ⟨v, h1, h2.ext e⟩⟩
theorem RS.set {H : Hp} {al : List Addr} {ρ : Lo} {σ : St} (L : RS K gf H al be ρ σ) {i : Nat} {d : D} {v : V} (r : RV K gf H al be d v) : RS K gf H al be (ρ.set i (some d)) (σ.set i (some v)) := by
  refine ⟨by simp [L.len], fun j e h => ?_⟩
  by_cases hj : i = j
  · subst hj
    by_cases hl : i < ρ.length
    · rw [List.getElem?_set_self hl] at h
      rw [List.getElem?_set_self (by rw [← L.len]; exact hl)]
      cases h
      exact ⟨v, rfl, r⟩
    · rw [List.getElem?_eq_none (by simpa using hl)] at h
      cases h
  · rw [List.getElem?_set_ne hj] at h
    rw [List.getElem?_set_ne hj]
    exact L.val j e h

/-- what an exception of the class c meets -/
def wx (gf : Str → Option Addr) (W : WX) (σ : St) : Str → Hp → Prop := fun c H => ∃ C, gf c = some C ∧ W (.ref C) none σ H

def rdE (K : PySem.W.Frag) (gf : Str → Option Addr) (W : WX) (m : Lo → M D) : TE := fun σ H Q => ∃ al be ρ st, SR K gf H al be st ∧ RS K gf H al be ρ σ ∧
  Post K gf be (wx gf W σ) H al (m ρ st) fun d _ H1 al1 => ∀ v, RV K gf H1 al1 be d v → Q v H1
def rdT (K : PySem.W.Frag) (gf : Str → Option Addr) (W : WX) (m : Lo → M Bool) : TT := fun σ H Q => ∃ al be ρ st, SR K gf H al be st ∧ RS K gf H al be ρ σ ∧
  Post K gf be (wx gf W σ) H al (m ρ st) fun b _ H1 _ => Q b H1
def rdA (K : PySem.W.Frag) (gf : Str → Option Addr) (W : WX) (m : Lo → M (List D)) : TA := fun σ H Q => ∃ al be ρ st, SR K gf H al be st ∧ RS K gf H al be ρ σ ∧
  Post K gf be (wx gf W σ) H al (m ρ st) fun ds _ H1 al1 => ∀ vs, RVs K gf H1 al1 be ds vs → Q vs H1
end

section
variable {X : Cx} {gf : Str → Option Addr} {W : WX}
theorem imE {e : Expr} {t t' : TE} (h : PE X e t) (i : ∀ σ H Q, t' σ H Q → t σ H Q) : PE X e t' := ⟨fun pins s σ H Q I q => h.run pins s σ H Q I (i σ H Q q)⟩
theorem imT {e : Expr} {t t' : TT} (h : PT X e t) (i : ∀ σ H Q, t' σ H Q → t σ H Q) : PT X e t' := ⟨fun pins s σ H Q I q => h.run pins s σ H Q I (i σ H Q q)⟩
theorem imW {e : Expr} {t t' : TT} (h : PW X e t) (i : ∀ σ H Q, t' σ H Q → t σ H Q) : PW X e t' := ⟨fun wh pins s σ H Q I q => h.run wh pins s σ H Q I (i σ H Q q)⟩
theorem imA {es : List Expr} {t t' : TA} (h : PA X es t) (i : ∀ σ H Q, t' σ H Q → t σ H Q) : PA X es t' := ⟨fun pos pins s σ H Q I q => h.run pos pins s σ H Q I (i σ H Q q)⟩
theorem imS {s : Stmt} {t t' : TS} (h : PS X s t) (i : ∀ D σ H, t' D σ H → t D σ H) : PS X s t' := ⟨fun pins s σ H D I q => h.run pins s σ H D I (i D σ H q)⟩
theorem imSs {s : List Stmt} {t t' : TS} (h : PSs X s t) (i : ∀ D σ H, t' D σ H → t D σ H) : PSs X s t' := ⟨fun pins s σ H D I q => h.run pins s σ H D I (i D σ H q)⟩

/-- an expression does what m says -/
def SE (X : Cx) (gf : Str → Option Addr) (W : WX) (e : Expr) (m : Lo → M D) : Prop := PE X e (rdE X.K gf W m)
def ST (X : Cx) (gf : Str → Option Addr) (W : WX) (e : Expr) (m : Lo → M Bool) : Prop := PT X e (rdT X.K gf W m)
def SA (X : Cx) (gf : Str → Option Addr) (W : WX) (es : List Expr) (m : Lo → M (List D)) : Prop := PA X es (rdA X.K gf W m)

/-! ### values -/
def mVar (i : Nat) : Lo → M D := fun ρ => M.look fun _ => (ρ[i]?).bind id
theorem s_var {i : Nat} {x : Str} {pos : Pos} (hN : X.N[i]? = some x) (hv : Vis X.env.scope x) (hd : (x == ("__debug__" : Str)) = false) (hcd : (x == ("__classdict__" : Str)) = false) : SE X gf W (.Name x pos) (mVar i) := by
  refine imE (pe_var (i := i) hN hv hd hcd) fun σ H Q ⟨al, be, ρ, st, S, L, p⟩ => ?_
  obtain ⟨d, e, q⟩ := p.look S
  obtain ⟨o, e1, e2⟩ := Option.bind_eq_some_iff.mp e
  cases e2
  obtain ⟨v, h1, h2⟩ := L.val i d e1
  exact ⟨v, h1, q v h2⟩
/-- a constant -/
def mC (d : D) : Lo → M D := fun _ => M.pure d
theorem s_const {e : Expr} {d : D} {v : V} (h : PE X e (tC v)) (r : ∀ H al be, RV X.K gf H al be d v) : SE X gf W e (mC d) := by
  refine imE h fun σ H Q ⟨al, be, ρ, st, S, L, p⟩ => ?_
  exact p.ok S v (r H al be)
theorem s_int {i : Int} {j pos} : SE X gf W (.Constant (.int i) j pos) (mC (.int i)) := s_const pe_int fun _ _ _ => .int i
theorem s_bl {b : Bool} {j pos} : SE X gf W (.Constant (.bool b) j pos) (mC (.bl b)) := s_const pe_bl fun _ _ _ => .bl b
theorem s_non {j pos} : SE X gf W (.Constant .none j pos) (mC .non) := s_const pe_non fun _ _ _ => .non
theorem s_str {x : Str} {j pos} (h : PyData.strOk x = true) (h' : x.length ≤ sizeLine) : SE X gf W (.Constant (.str x) j pos) (mC (.str x)) := s_const pe_str fun _ _ _ => .str h h'
theorem s_glob {x : Str} {d : D} {v : V} {u : Value} {pos : Pos} (hg : Gl X x) (hm : X.mg x = some u) (r : RelV v u) (hd : (x == ("__debug__" : Str)) = false) (rv : ∀ H al be, RV X.K gf H al be d v) : SE X gf W (.Name x pos) (mC d) :=
  s_const (pe_glob hg hm r hd) rv
/-- code that is never reached -/
theorem s_bad {e : Expr} : SE X gf W e (fun _ => M.stuck) := ⟨fun _ _ _ _ _ _ ⟨_, _, _, _, _, _, p⟩ => p.elim⟩
theorem st_bad {e : Expr} : ST X gf W e (fun _ => M.stuck) := ⟨fun _ _ _ _ _ _ ⟨_, _, _, _, _, _, p⟩ => p.elim⟩

/-! ### operators by values -/
/-- two values, the store as it is; a value -/
def OpS (X : Cx) (gf : Str → Option Addr) (f : Value → Value → Sem Value) (g : D → D → M D) : Prop :=
  OpR X f (fun x y H Q => ∃ al be st d e W, SR X.K gf H al be st ∧ RV X.K gf H al be d x ∧ RV X.K gf H al be e y ∧ Post X.K gf be W H al (g d e st) fun t _ H1 al1 => ∀ v, RV X.K gf H1 al1 be t v → Q v H1)
def mOp (g : D → D → M D) (ma mb : Lo → M D) : Lo → M D := fun ρ => M.bind (ma ρ) fun x => M.bind (mb ρ) fun y => g x y
theorem two_of {ma mb : Lo → M D} {g : D → D → M D} {σ : St} {H : Hp} {Q : VK} (h : rdE X.K gf W (mOp g ma mb) σ H Q) :
    rdE X.K gf W ma σ H fun x H1 => rdE X.K gf W mb σ H1 fun y H2 => ∃ al be st d e W, SR X.K gf H2 al be st ∧ RV X.K gf H2 al be d x ∧ RV X.K gf H2 al be e y ∧ Post X.K gf be W H2 al (g d e st) fun t _ H1 al1 => ∀ v, RV X.K gf H1 al1 be t v → Q v H1 := by
  obtain ⟨al, be, ρ, st, S, L, p⟩ := h
  refine ⟨al, be, ρ, st, S, L, p.bind.mono fun d st1 H1 al1 S1 e1 p1 v rv => ?_⟩
  refine ⟨al1, be, ρ, st1, S1, L.ext e1, p1.bind.mono fun e st2 H2 al2 S2 e2 p2 u ru => ?_⟩
  exact ⟨al2, be, st2, d, e, _, S2, rv.ext e2, ru, p2⟩
variable {a b c : Expr} {ma mb mc : Lo → M D} {pos : Pos}
theorem s_op {op : Operator} {g : D → D → M D} (ho : OpS X gf (binaryOp op) g) (ha : SE X gf W a ma) (hb : SE X gf W b mb) : SE X gf W (.BinOp a op b pos) (mOp g ma mb) :=
  imE (pe_op ho ha hb) fun _ _ _ h => two_of h
theorem s_cmp {op : CmpOp} {g : D → D → M D} (ho : OpS X gf (compareOp op) g) (ha : SE X gf W a ma) (hb : SE X gf W b mb) (hm : behindInMarks op b = false) : SE X gf W (.Compare a [op] [b] pos) (mOp g ma mb) :=
  imE (pe_cmpR ho ha hb hm) fun _ _ _ h => two_of h
/-- a value that is a truth -/
def asB : D → Option Bool
  | .bl b => some b
  | _ => none
def mB (m : Lo → M D) : Lo → M Bool := fun ρ => M.bind (m ρ) fun d => M.look fun _ => asB d
theorem RV.asB {K : PySem.W.Frag} {H : Hp} {al be : List Addr} {d : D} {v : V} {k : Bool} (r : RV K gf H al be d v) (h : TB.asB d = some k) : v = .bl k := by
  cases r <;> simp [TB.asB] at h
  subst h; rfl
theorem st_cmp {op : CmpOp} {g : D → D → M D} (ho : OpS X gf (compareOp op) g) (ha : SE X gf W a ma) (hb : SE X gf W b mb) (hm : behindInMarks op b = false) : ST X gf W (.Compare a [op] [b] pos) (mB (mOp g ma mb)) := by
  refine imT (pt_cmpR ho ha hb hm) fun σ H Q h => ?_
  obtain ⟨al, be, ρ, st, S, L, p⟩ := h
  refine two_of ⟨al, be, ρ, st, S, L, p.bind.mono fun d st1 H1 al1 S1 e1 p1 v rv => ?_⟩
  obtain ⟨k, e, q⟩ := p1.look S1
  exact ⟨k, rv.asB e, q⟩
/-- a < b < c -/
def mChain (g g' : D → D → M D) (ma mb mc : Lo → M D) : Lo → M D := fun ρ => M.bind (ma ρ) fun x => M.bind (mb ρ) fun y => M.bind (g x y) fun z => M.bind (M.look fun _ => asB z) fun k => if k then M.bind (mc ρ) fun w => g' y w else M.pure (.bl false)
theorem chain_of {g g' : D → D → M D} {σ : St} {H : Hp} {Q : VK} (h : rdE X.K gf W (mChain g g' ma mb mc) σ H Q) :
    tChain (fun x y H Q => ∃ al be st d e W, SR X.K gf H al be st ∧ RV X.K gf H al be d x ∧ RV X.K gf H al be e y ∧ Post X.K gf be W H al (g d e st) fun t _ H1 al1 => ∀ v, RV X.K gf H1 al1 be t v → Q v H1)
      (fun x y H Q => ∃ al be st d e W, SR X.K gf H al be st ∧ RV X.K gf H al be d x ∧ RV X.K gf H al be e y ∧ Post X.K gf be W H al (g' d e st) fun t _ H1 al1 => ∀ v, RV X.K gf H1 al1 be t v → Q v H1)
      (rdE X.K gf W ma) (rdE X.K gf W mb) (rdE X.K gf W mc) σ H Q := by
  obtain ⟨al, be, ρ, st, S, L, p⟩ := h
  refine ⟨al, be, ρ, st, S, L, p.bind.mono fun d st1 H1 al1 S1 e1 p1 v rv => ?_⟩
  refine ⟨al1, be, ρ, st1, S1, L.ext e1, p1.bind.mono fun e st2 H2 al2 S2 e2 p2 u ru => ?_⟩
  refine ⟨al2, be, st2, d, e, _, S2, rv.ext e2, ru, p2.bind.mono fun z st3 H3 al3 S3 e3 p3 zv rz => ?_⟩
  obtain ⟨k, ek, p3⟩ := p3.bind.look S3
  refine ⟨k, rz.asB ek, ?_⟩
  cases k with
  | true =>
    rw [if_pos rfl] at p3 ⊢
    refine ⟨al3, be, ρ, st3, S3, ((L.ext e1).ext e2).ext e3, p3.bind.mono fun w st4 H4 al4 S4 e4 p4 wv rw' => ?_⟩
    exact ⟨al4, be, st4, e, w, _, S4, (ru.ext e3).ext e4, rw', p4⟩
  | false =>
    rw [if_neg Bool.false_ne_true] at p3 ⊢
    exact p3.ok S3 _ (.bl false)
theorem s_chain {op op' : CmpOp} {g g' : D → D → M D} (ho : OpS X gf (compareOp op) g) (ho' : OpS X gf (compareOp op') g') (ha : SE X gf W a ma) (hb : SE X gf W b mb) (hc : SE X gf W c mc)
    (hm : lastMarks [op, op'] [b, c] = false) : SE X gf W (.Compare a [op, op'] [b, c] pos) (mChain g g' ma mb mc) :=
  imE (pe_chain ho ho' ha hb hc hm) fun _ _ _ h => chain_of h
theorem st_chain {op op' : CmpOp} {g g' : D → D → M D} (ho : OpS X gf (compareOp op) g) (ho' : OpS X gf (compareOp op') g') (ha : SE X gf W a ma) (hb : SE X gf W b mb) (hc : SE X gf W c mc)
    (hm : lastMarks [op, op'] [b, c] = false) : ST X gf W (.Compare a [op, op'] [b, c] pos) (mB (mChain g g' ma mb mc)) := by
  refine imT (pt_chain ho ho' ha hb hc hm) fun σ H Q h => ?_
  obtain ⟨al, be, ρ, st, S, L, p⟩ := h
  refine chain_of ⟨al, be, ρ, st, S, L, p.bind.mono fun d st1 H1 al1 S1 e1 p1 v rv => ?_⟩
  obtain ⟨k, e, q⟩ := p1.look S1
  exact ⟨k, rv.asB e, q⟩

/-! ### truth, and, or, not -/
def truth (st : Sto) : D → Option Bool
  | .non => some false
  | .bl b => some b
  | .int i => some (i != 0)
  | .str x => some (x.length != 0)
  | .tup l => some (!l.isEmpty)
  | .lst l => some (!l.isEmpty)
  | .ref n => match st[n]? with
    | some (.lst l) => some (!l.isEmpty)
    | some (.dct l) => some (!l.isEmpty)
    | _ => none
  | .fn _ => none
  | .scr l => some (!l.isEmpty)
theorem emp_len {α β : Type} {a : List α} {b : List β} (h : a.length = b.length) : a.isEmpty = b.isEmpty := by
  cases a <;> cases b <;> simp at h ⊢
theorem RV.truth {K : PySem.W.Frag} {H : Hp} {al be : List Addr} {st : Sto} {d : D} {v : V} {k : Bool} (S : SR K gf H al be st) (r : RV K gf H al be d v) (h : TB.truth st d = some k) : TruV K v H k := by
  cases r with
  | non => simp [TB.truth] at h; subst h; rfl
  | bl b => simp [TB.truth] at h; subst h; rfl
  | int i => simp [TB.truth] at h; subst h; rfl
  | @str x h1 h2 =>
    simp [TB.truth] at h; subst h
    refine ⟨h2, ?_⟩
    rw [Bool.eq_iff_iff]
    simp [bne_iff_ne]
  | tup h1 h2 _ => simp only [TB.truth, Option.some.injEq] at h; subst h; exact .inr (.inl ⟨_, h1, by rw [emp_len h2.length]⟩)
  | lst h1 h2 _ => simp only [TB.truth, Option.some.injEq] at h; subst h; exact .inl ⟨_, h1.sq, by rw [emp_len h2.length]⟩
  | @ref n a h1 =>
    obtain ⟨o, h2, ro⟩ := S.at' h1
    simp only [TB.truth, h2] at h
    cases o with
    | lst l => obtain ⟨vs, q, r, _⟩ := ro; simp only [Option.some.injEq] at h; subst h; exact .inl ⟨_, .of q, by rw [emp_len r.length]⟩
    | dct l => obtain ⟨vs, q, r, _⟩ := ro; simp only [Option.some.injEq] at h; subst h; exact .inr (.inr ⟨_, q, by rw [emp_len r.length]⟩)
    | ins c fs => cases h
  | fn _ => cases h
  | scr h1 _ => simp only [TB.truth, Option.some.injEq] at h; subst h; exact .inl ⟨_, h1.sq, by rw [emp_len (show (List.map V.int _).length = _ from List.length_map ..)]⟩
def mTru (m : Lo → M D) : Lo → M Bool := fun ρ => M.bind (m ρ) fun d => M.look fun st => truth st d
theorem st_tru (ha : SE X gf W a ma) (he : ∀ whole, isTrue a X.env whole = (do let v ← whole; standAt a.pos; holding [v] (truthy v))) : ST X gf W a (mTru ma) := by
  refine imT (pt_truth ha he) fun σ H Q h => ?_
  obtain ⟨al, be, ρ, st, S, L, p⟩ := h
  refine ⟨al, be, ρ, st, S, L, p.bind.mono fun d st1 H1 al1 S1 e1 p1 v rv => ?_⟩
  obtain ⟨k, e, q⟩ := p1.look S1
  exact ⟨k, rv.truth S1 e, q⟩
def mAnd (ma mb : Lo → M D) : Lo → M D := fun ρ => M.bind (ma ρ) fun d => M.bind (M.look fun st => truth st d) fun k => if k then mb ρ else M.pure d
def mOr (ma mb : Lo → M D) : Lo → M D := fun ρ => M.bind (ma ρ) fun d => M.bind (M.look fun st => truth st d) fun k => if k then M.pure d else mb ρ
def mNot (m : Lo → M D) : Lo → M D := fun ρ => M.bind (m ρ) fun d => M.bind (M.look fun st => truth st d) fun k => M.pure (.bl (!k))
variable {rest : List Expr}
theorem s_and (ha : SE X gf W a ma) (hb : SE X gf W (.BoolOp .And (b :: rest) pos) mb) : SE X gf W (.BoolOp .And (a :: b :: rest) pos) (mAnd ma mb) := by
  refine imE (pe_andT ha hb) fun σ H Q h => ?_
  obtain ⟨al, be, ρ, st, S, L, p⟩ := h
  refine ⟨al, be, ρ, st, S, L, p.bind.mono fun d st1 H1 al1 S1 e1 p1 v rv => ?_⟩
  obtain ⟨k, e, q⟩ := p1.bind.look S1
  refine ⟨k, rv.truth S1 e, ?_⟩
  cases k with
  | true => rw [if_pos rfl] at q ⊢; exact ⟨al1, be, ρ, st1, S1, L.ext e1, q⟩
  | false => rw [if_neg Bool.false_ne_true] at q ⊢; exact q.ok S1 v rv
theorem s_or (ha : SE X gf W a ma) (hb : SE X gf W (.BoolOp .Or (b :: rest) pos) mb) : SE X gf W (.BoolOp .Or (a :: b :: rest) pos) (mOr ma mb) := by
  refine imE (pe_orT ha hb) fun σ H Q h => ?_
  obtain ⟨al, be, ρ, st, S, L, p⟩ := h
  refine ⟨al, be, ρ, st, S, L, p.bind.mono fun d st1 H1 al1 S1 e1 p1 v rv => ?_⟩
  obtain ⟨k, e, q⟩ := p1.bind.look S1
  refine ⟨k, rv.truth S1 e, ?_⟩
  cases k with
  | false => rw [if_neg Bool.false_ne_true] at q ⊢; exact ⟨al1, be, ρ, st1, S1, L.ext e1, q⟩
  | true => rw [if_pos rfl] at q ⊢; exact q.ok S1 v rv
theorem s_one {op} (ha : SE X gf W a ma) : SE X gf W (.BoolOp op [a] pos) ma := pe_one ha
theorem s_not (ha : SE X gf W a ma) : SE X gf W (.UnaryOp .Not a pos) (mNot ma) := by
  refine imE (pe_notT ha) fun σ H Q h => ?_
  obtain ⟨al, be, ρ, st, S, L, p⟩ := h
  refine ⟨al, be, ρ, st, S, L, p.bind.mono fun d st1 H1 al1 S1 e1 p1 v rv => ?_⟩
  obtain ⟨k, e, q⟩ := p1.bind.look S1
  exact ⟨k, rv.truth S1 e, q.ok S1 _ (.bl _)⟩
/-- tests -/
def SW (X : Cx) (gf : Str → Option Addr) (W : WX) (e : Expr) (m : Lo → M Bool) : Prop := PW X e (rdT X.K gf W m)
variable {ta tb : Lo → M Bool}
def tAndM (ta tb : Lo → M Bool) : Lo → M Bool := fun ρ => M.bind (ta ρ) fun k => if k then tb ρ else M.pure false
def tOrM (ta tb : Lo → M Bool) : Lo → M Bool := fun ρ => M.bind (ta ρ) fun k => if k then M.pure true else tb ρ
def tNotM (ta : Lo → M Bool) : Lo → M Bool := fun ρ => M.bind (ta ρ) fun k => M.pure (!k)
theorem sw_and1 (ha : ST X gf W a ta) : SW X gf W (.BoolOp .And [a] pos) ta := pw_and1 ha
theorem sw_or1 (ha : ST X gf W a ta) : SW X gf W (.BoolOp .Or [a] pos) ta := pw_or1 ha
theorem sw_and (ha : ST X gf W a ta) (hb : SW X gf W (.BoolOp .And (b :: rest) pos) tb) : SW X gf W (.BoolOp .And (a :: b :: rest) pos) (tAndM ta tb) := by
  refine imW (pw_and ha hb) fun σ H Q h => ?_
  obtain ⟨al, be, ρ, st, S, L, p⟩ := h
  refine ⟨al, be, ρ, st, S, L, p.bind.mono fun k st1 H1 al1 S1 e1 q => ?_⟩
  cases k with
  | true => rw [if_pos rfl] at q ⊢; exact ⟨al1, be, ρ, st1, S1, L.ext e1, q⟩
  | false => rw [if_neg Bool.false_ne_true] at q ⊢; exact q.ok S1
theorem sw_or (ha : ST X gf W a ta) (hb : SW X gf W (.BoolOp .Or (b :: rest) pos) tb) : SW X gf W (.BoolOp .Or (a :: b :: rest) pos) (tOrM ta tb) := by
  refine imW (pw_or ha hb) fun σ H Q h => ?_
  obtain ⟨al, be, ρ, st, S, L, p⟩ := h
  refine ⟨al, be, ρ, st, S, L, p.bind.mono fun k st1 H1 al1 S1 e1 q => ?_⟩
  cases k with
  | true => rw [if_pos rfl] at q ⊢; exact q.ok S1
  | false => rw [if_neg Bool.false_ne_true] at q ⊢; exact ⟨al1, be, ρ, st1, S1, L.ext e1, q⟩
theorem st_not (ha : ST X gf W a ta) : ST X gf W (.UnaryOp .Not a pos) (tNotM ta) := by
  refine imT (pt_not ha) fun σ H Q h => ?_
  obtain ⟨al, be, ρ, st, S, L, p⟩ := h
  exact ⟨al, be, ρ, st, S, L, p.bind.mono fun k st1 H1 al1 S1 e1 q => q.ok S1⟩
def mIte (tc : Lo → M Bool) (ma mb : Lo → M D) : Lo → M D := fun ρ => M.bind (tc ρ) fun k => if k then ma ρ else mb ρ
theorem s_ite {tc : Lo → M Bool} (hc : ST X gf W c tc) (ha : SE X gf W a ma) (hb : SE X gf W b mb) : SE X gf W (.IfExp c a b pos) (mIte tc ma mb) := by
  refine imE (pe_ifExp hc ha hb) fun σ H Q h => ?_
  obtain ⟨al, be, ρ, st, S, L, p⟩ := h
  refine ⟨al, be, ρ, st, S, L, p.bind.mono fun k st1 H1 al1 S1 e1 q => ?_⟩
  cases k with
  | true => rw [if_pos rfl] at q ⊢; exact ⟨al1, be, ρ, st1, S1, L.ext e1, q⟩
  | false => rw [if_neg Bool.false_ne_true] at q ⊢; exact ⟨al1, be, ρ, st1, S1, L.ext e1, q⟩

/-! ### argument lists, displays -/
def aNil : Lo → M (List D) := fun _ => M.pure []
def aCons (m : Lo → M D) (r : Lo → M (List D)) : Lo → M (List D) := fun ρ => M.bind (m ρ) fun d => M.bind (r ρ) fun l => M.pure (d :: l)
variable {es : List Expr} {mr : Lo → M (List D)}
theorem sa_nil : SA X gf W [] aNil := imA pa_nil fun σ H Q ⟨al, be, ρ, st, S, L, p⟩ => p.ok S [] .nil
theorem sa_cons (ha : SE X gf W a ma) (hr : SA X gf W es mr) (hs : starEach (a :: es) X.env = (false, eval a X.env) :: starEach es X.env) : SA X gf W (a :: es) (aCons ma mr) := by
  refine imA (pa_cons ha hr hs) fun σ H Q h => ?_
  obtain ⟨al, be, ρ, st, S, L, p⟩ := h
  refine ⟨al, be, ρ, st, S, L, p.bind.mono fun d st1 H1 al1 S1 e1 p1 v rv => ?_⟩
  refine ⟨al1, be, ρ, st1, S1, L.ext e1, p1.bind.mono fun l st2 H2 al2 S2 e2 p2 vs rvs => ?_⟩
  exact p2.ok S2 (v :: vs) (.cons (rv.ext e2) rvs)
/-- a tuple is made -/
def mkT (l : List D) : M D := fun st => if l.length ≤ sizeLine then some (.ok (.tup l), st) else none
theorem mkT_ok {K : PySem.W.Frag} {H : Hp} {al be : List Addr} {st : Sto} {ds : List D} {vs : List V} {W : Str → Hp → Prop} {Q : VK} {p : Addr} (S : SR K gf H al be st) (r : RVs K gf H al be ds vs) (hp : H p = none)
    (h : Post K gf be W H al (mkT ds st) fun t _ H1 al1 => ∀ v, RV K gf H1 al1 be t v → Q v H1) : Q (.ref p) (upd H p (.tup vs)) := by
  unfold mkT at h
  split at h
  · rename_i z
    exact h _ _ (S.new hp) (Ext.new hp S) _ (.tup (.of upd_same) (r.ext (Ext.new hp S)) z)
  · exact h.elim
theorem mkT_len {K : PySem.W.Frag} {H : Hp} {al be : List Addr} {st : Sto} {ds : List D} {W : Str → Hp → Prop} {k : D → Sto → Hp → List Addr → Prop} (h : Post K gf be W H al (mkT ds st) k) : ds.length ≤ sizeLine := by
  unfold mkT at h
  split at h
  · assumption
  · exact h.elim
/-- a list is made: one that may change, or one that stays -/
def mkL (m : Bool) (l : List D) : M D := fun st => if l.length ≤ sizeLine then (if m then some (.ok (.ref st.length), st ++ [.lst l]) else some (.ok (.lst l), st)) else none
theorem mkL_ok {K : PySem.W.Frag} {H : Hp} {al be : List Addr} {st : Sto} {m : Bool} {ds : List D} {vs : List V} {W : Str → Hp → Prop} {Q : VK} {p : Addr} (S : SR K gf H al be st) (r : RVs K gf H al be ds vs) (hp : H p = none)
    (h : Post K gf be W H al (mkL m ds st) fun t _ H1 al1 => ∀ v, RV K gf H1 al1 be t v → Q v H1) : Q (.ref p) (upd H p (.lst vs)) := by
  unfold mkL at h
  split at h
  · rename_i z
    cases m with
    | true =>
      have e := Ext.push (o := .lst vs) hp S
      refine h _ _ (S.push (mo := .lst ds) hp ⟨vs, upd_same, r.ext e, z⟩) e _ (.ref ?_)
      rw [← S.len, List.getElem?_append_right (Nat.le_refl _)]
      simp
    | false =>
      have npal : p ∉ al := fun q => by
        obtain ⟨ob, ro⟩ := S.mem q
        have := ro.mut
        rw [hp] at this
        exact this
      have npbe : p ∉ be := fun q => by
        obtain ⟨vs, e⟩ := S.res p q
        rw [hp] at e
        cases e
      exact h _ _ (S.new hp) (Ext.new hp S) _ (.lst ⟨upd_same, npal, npbe⟩ (r.ext (Ext.new hp S)) z)
  · exact h.elim
theorem mkL_len {K : PySem.W.Frag} {H : Hp} {al be : List Addr} {st : Sto} {m : Bool} {ds : List D} {W : Str → Hp → Prop} {k : D → Sto → Hp → List Addr → Prop} (h : Post K gf be W H al (mkL m ds st) k) : ds.length ≤ sizeLine := by
  unfold mkL at h
  split at h
  · assumption
  · exact h.elim
def mTup (mr : Lo → M (List D)) : Lo → M D := fun ρ => M.bind (mr ρ) mkT
def mLst (m : Bool) (mr : Lo → M (List D)) : Lo → M D := fun ρ => M.bind (mr ρ) (mkL m)
theorem s_tup {k : Nat} (h : SA X gf W es mr) : SE X gf W (.Tuple es k pos) (mTup mr) := by
  refine imE (pe_tup h) fun σ H Q h => ?_
  obtain ⟨al, be, ρ, st, S, L, p⟩ := h
  refine ⟨al, be, ρ, st, S, L, p.bind.mono fun ds st1 H1 al1 S1 e1 p1 vs rvs => ⟨?_, fun q hq => mkT_ok S1 rvs hq p1⟩⟩
  rw [← rvs.length]
  exact mkT_len p1
theorem s_lst {m : Bool} (h : SA X gf W es mr) : SE X gf W (.List es pos) (mLst m mr) := by
  refine imE (pe_lst h) fun σ H Q h => ?_
  obtain ⟨al, be, ρ, st, S, L, p⟩ := h
  refine ⟨al, be, ρ, st, S, L, p.bind.mono fun ds st1 H1 al1 S1 e1 p1 vs rvs => ⟨?_, fun q hq => mkL_ok S1 rvs hq p1⟩⟩
  rw [← rvs.length]
  exact mkL_len p1
end
end TB
set_option Elab.async false
set_option linter.all false
set_option maxRecDepth 100000
set_option maxHeartbeats 4000000
/-! TB2: operators by values -/
namespace TB
open PySem PySem.Spec L2

/-! ### texts -/
theorem strOk_app {x y : Str} (h : PyData.strOk x = true) (h' : PyData.strOk y = true) : PyData.strOk (x ++ y) = true := by
  unfold PyData.strOk at *
  show (x.cps ++ y.cps).all _ = true
  rw [Array.all_append, h, h']; rfl
theorem len_app (x y : Str) : (x ++ y).length = x.length + y.length := by
  show (x.cps ++ y.cps).size = _
  rw [Array.size_append]; rfl

/-! ### lists that are read -/
def lstOf (st : Sto) : D → Option (List D)
  | .lst l => some l
  | .ref n => match st[n]? with
    | some (.lst l) => some l
    | _ => none
  | _ => none
section
variable {X : Cx} {gf : Str → Option Addr} {K : PySem.W.Frag} {H : Hp} {al be : List Addr} {st : Sto} {d e : D} {v u : V} {l : List D}
theorem RV.lstOf (S : SR K gf H al be st) (r : RV K gf H al be d v) (h : TB.lstOf st d = some l) : ∃ a vs, v = .ref a ∧ H a = some (.lst vs) ∧ RVs K gf H al be l vs ∧ l.length ≤ sizeLine := by
  cases r with
  | lst h1 h2 z => simp only [TB.lstOf, Option.some.injEq] at h; subst h; exact ⟨_, _, rfl, h1.1, h2, z⟩
  | @ref n a h1 =>
    obtain ⟨o, h2, ro⟩ := S.at' h1
    simp only [TB.lstOf, h2] at h
    cases o with
    | lst l' => obtain ⟨vs, q, r, z⟩ := ro; simp only [Option.some.injEq] at h; subst h; exact ⟨_, _, rfl, q, r, z⟩
    | dct l => cases h
    | ins c fs => cases h
  | _ => simp [TB.lstOf] at h
theorem RV.tup_inv (r : RV K gf H al be (.tup l) v) : ∃ a vs, v = .ref a ∧ SqT K H a vs ∧ RVs K gf H al be l vs ∧ l.length ≤ sizeLine := by
  cases r with
  | tup h1 h2 z => exact ⟨_, _, rfl, h1, h2, z⟩
theorem RV.int_inv {i : Int} (r : RV K gf H al be (.int i) v) : v = .int i := by cases r; rfl
theorem RV.bl_inv {i : Bool} (r : RV K gf H al be (.bl i) v) : v = .bl i := by cases r; rfl
theorem RV.non_inv (r : RV K gf H al be .non v) : v = .non := by cases r; rfl
theorem RV.str_inv {x : Str} (r : RV K gf H al be (.str x) v) : v = .str x ∧ PyData.strOk x = true ∧ x.length ≤ sizeLine := by
  cases r with
  | str h h' => exact ⟨rfl, h, h'⟩

/-! ### arithmetic -/
def opAdd (m : Bool) : D → D → M D
  | .int i, .int j => M.pure (.int (i + j))
  | .str x, .str y => fun st => if x.length + y.length ≤ sizeLine then some (.ok (.str (x ++ y)), st) else none
  | .tup a, .tup b => mkT (a ++ b)
  | d, e => fun st => match lstOf st d, lstOf st e with
    | some a, some b => mkL m (a ++ b) st
    | _, _ => none
theorem list_add {m : Bool} {W : Str → Hp → Prop} {Q : VK} {pins : List (Addr × Obj)} {s : Shared} {σ : St} {vv uu : Value} (S : SR X.K gf H al be st) (rd : RV X.K gf H al be d v) (re : RV X.K gf H al be e u) (I : Inv X pins σ H s) (rx : RelV v vv) (ry : RelV u uu)
    (p : Post X.K gf be W H al (match TB.lstOf st d, TB.lstOf st e with
    | some a, some b => mkL m (a ++ b) st
    | _, _ => none) fun t _ H1 al1 => ∀ v, RV X.K gf H1 al1 be t v → Q v H1) : wpAny (model X.prog X.w) X.A (binaryOp .Add vv uu) (EP X pins σ Q) X.xe s := by
  match h1 : TB.lstOf st d, h2 : TB.lstOf st e with
  | none, _ => rw [h1] at p; exact p.elim
  | some a, none => rw [h1, h2] at p; exact p.elim
  | some l1, some l2 =>
    rw [h1, h2] at p
    obtain ⟨a, vs, rfl, q1, r1, z1⟩ := rd.lstOf S h1
    obtain ⟨b, ws, rfl, q2, r2, z2⟩ := re.lstOf S h2
    have hl := mkL_len p
    rw [List.length_append, r1.length, r2.length] at hl
    exact op_cat pins s σ H _ _ vv uu Q I rx ry ⟨a, b, vs, ws, rfl, rfl, q1, q2, hl, fun q hq => mkL_ok S (r1.append r2) hq p⟩
theorem os_add {m : Bool} : OpS X gf (binaryOp .Add) (opAdd m) := by
  intro pins s σ H x y v u Q I rx ry h
  obtain ⟨al, be, st, d, e, W, S, rd, re, p⟩ := h
  unfold opAdd at p
  split at p
  · cases rd.int_inv; cases re.int_inv
    exact op_add pins s σ H _ _ v u Q I rx ry ⟨_, _, rfl, rfl, p.ok S _ (.int _)⟩
  · obtain ⟨rfl, h1, h2⟩ := rd.str_inv
    obtain ⟨rfl, h3, h4⟩ := re.str_inv
    split at p
    · rename_i z
      exact op_add_str pins s σ H _ _ v u Q I rx ry ⟨_, _, rfl, rfl, z, p.ok S _ (.str (strOk_app h1 h3) (by rw [len_app]; exact z))⟩
    · exact p.elim
  · obtain ⟨a, vs, rfl, q1, r1, z1⟩ := rd.tup_inv
    obtain ⟨b, ws, rfl, q2, r2, z2⟩ := re.tup_inv
    have hl := mkT_len p
    rw [List.length_append] at hl
    refine op_catA pins s σ H _ _ v u Q I rx ry ⟨a, b, vs, ws, rfl, rfl, q1, q2, by rw [← r1.length, ← r2.length]; exact hl, fun z => ?_, fun _ z => ?_, fun _ _ q hq => mkT_ok S (r1.append r2) hq p⟩
    · subst z
      cases r1
      unfold mkT at p
      rw [List.nil_append, if_pos z2] at p
      exact p.ok S _ re
    · subst z
      cases r2
      unfold mkT at p
      rw [List.append_nil, if_pos z1] at p
      exact p.ok S _ rd
  · exact list_add S rd re I rx ry p
/-- two ints -/
def opI (f : Int → Int → Option Int) : D → D → M D
  | .int i, .int j => M.look fun _ => (f i j).map .int
  | _, _ => M.stuck
theorem os_I {op : Operator} {f : Int → Int → Option Int} {C : Int → Int → Prop} {g : Int → Int → Int} (h : OpR X (binaryOp op) (rI C fun i j => .int (g i j))) (hf : ∀ i j k, f i j = some k → C i j ∧ k = g i j) : OpS X gf (binaryOp op) (opI f) := by
  intro pins s σ H x y v u Q I rx ry q
  obtain ⟨al, be, st, d, e, W, S, rd, re, p⟩ := q
  unfold opI at p
  split at p
  · cases rd.int_inv; cases re.int_inv
    obtain ⟨t, e1, q⟩ := p.look S
    obtain ⟨k, e2, rfl⟩ := Option.map_eq_some_iff.mp e1
    obtain ⟨c, rfl⟩ := hf _ _ _ e2
    exact h pins s σ H _ _ v u Q I rx ry ⟨_, _, rfl, rfl, c, q _ (.int _)⟩
  · exact p.elim
def fSub (i j : Int) : Option Int := some (i - j)
theorem os_sub : OpS X gf (binaryOp .Sub) (opI fSub) := os_I (C := fun _ _ => True) (g := fun i j => i - j) (fun pins s σ H x y v u Q I rx ry ⟨i, j, e1, e2, _, q⟩ => op_sub pins s σ H x y v u Q I rx ry ⟨i, j, e1, e2, q⟩) fun i j k h => by
  simp only [fSub, Option.some.injEq] at h; exact ⟨trivial, h.symm⟩
def fMod (i j : Int) : Option Int := if 0 < j then some (i % j) else none
theorem os_mod : OpS X gf (binaryOp .Mod) (opI fMod) := os_I op_mod fun i j k h => by
  unfold fMod at h; split at h
  · cases h; exact ⟨by assumption, rfl⟩
  · cases h
def fDiv (i j : Int) : Option Int := if 0 < j ∧ j < 1073741824 then some (i / j) else none
theorem os_div : OpS X gf (binaryOp .FloorDiv) (opI fDiv) := os_I op_fdiv fun i j k h => by
  unfold fDiv at h; split at h
  · cases h; exact ⟨by assumption, rfl⟩
  · cases h

/-! ### order -/
def opC (f : Int → Int → Bool) (g : List Nat → List Nat → Bool) : D → D → M D
  | .int i, .int j => M.pure (.bl (f i j))
  | .str i, .str j => M.pure (.bl (g i.cps.toList j.cps.toList))
  | _, _ => M.stuck
theorem os_C {op : CmpOp} {f : Int → Int → Bool} {g : List Nat → List Nat → Bool} (h : OpR X (compareOp op) (rI0 fun i j => .bl (f i j))) (h' : OpR X (compareOp op) (fun x y H Q => ∃ i j, x = .str i ∧ y = .str j ∧ Q (.bl (g i.cps.toList j.cps.toList)) H)) : OpS X gf (compareOp op) (opC f g) := by
  intro pins s σ H x y v u Q I rx ry q
  obtain ⟨al, be, st, d, e, W, S, rd, re, p⟩ := q
  unfold opC at p
  split at p
  · cases rd.int_inv; cases re.int_inv
    exact h pins s σ H _ _ v u Q I rx ry ⟨_, _, rfl, rfl, p.ok S _ (.bl _)⟩
  · obtain ⟨rfl, _⟩ := rd.str_inv
    obtain ⟨rfl, _⟩ := re.str_inv
    exact h' pins s σ H _ _ v u Q I rx ry ⟨_, _, rfl, rfl, p.ok S _ (.bl _)⟩
  · exact p.elim
def opLt := opC (fun i j => decide (i < j)) (fun i j => decide (i < j))
def opLe := opC (fun i j => decide (i ≤ j)) (fun i j => !decide (j < i))
def opGt := opC (fun i j => decide (j < i)) (fun i j => decide (j < i))
def opGe := opC (fun i j => decide (j ≤ i)) (fun i j => !decide (i < j))
theorem os_lt : OpS X gf (compareOp .Lt) opLt := os_C op_lt op_lt_str
theorem os_le : OpS X gf (compareOp .LtE) opLe := os_C op_le op_le_str
theorem os_gt : OpS X gf (compareOp .Gt) opGt := os_C op_gt op_gt_str
theorem os_ge : OpS X gf (compareOp .GtE) opGe := os_C op_ge op_ge_str

/-! ### equality -/
/-- a value as data, a list of the store too -/
def pyT (st : Sto) : D → Option PyData
  | .ref n => match st[n]? with
    | some (.lst l) => (D.pys l).map .list
    | _ => none
  | d => d.py
theorem RV.pyT (S : SR K gf H al be st) (r : RV K gf H al be d v) {p : PyData} (h : TB.pyT st d = some p) : Dp K H v p ∧ p.canLay0 = true := by
  cases r with
  | @ref n a h1 =>
    obtain ⟨o, h2, ro⟩ := S.at' h1
    simp only [TB.pyT, h2] at h
    cases o with
    | lst l' =>
      obtain ⟨vs, q, r, z⟩ := ro
      simp only [Option.map_eq_some_iff] at h
      obtain ⟨ps, e1, rfl⟩ := h
      obtain ⟨q1, q2⟩ := r.dp e1
      exact ⟨.lst (.of q) q1, by simpa only [PyData.canLay0] using q2⟩
    | dct l => cases h
    | ins c fs => cases h
  | non => exact RV.dp (gf := gf) (al := al) (be := be) .non h
  | bl b => exact RV.dp (gf := gf) (al := al) (be := be) (.bl b) h
  | int i => exact RV.dp (gf := gf) (al := al) (be := be) (.int i) h
  | str h1 h2 => exact RV.dp (gf := gf) (al := al) (be := be) (.str h1 h2) h
  | tup h1 h2 z => exact RV.dp (.tup h1 h2 z) h
  | lst h1 h2 z => exact RV.dp (.lst h1 h2 z) h
  | fn h1 => cases h
  | scr h1 z => cases h
def eqT (st : Sto) (d e : D) : Option Bool := match pyT st d, pyT st e with
  | some a, some b => if min a.depth b.depth ≤ 64 then some (a.eqv b) else none
  | _, _ => none
theorem eqT_of {b : Bool} (h : eqT st d e = some b) : ∃ p q, pyT st d = some p ∧ pyT st e = some q ∧ min p.depth q.depth ≤ 64 ∧ b = p.eqv q := by
  unfold eqT at h
  split at h
  · rename_i p q h1 h2
    split at h
    · cases h; exact ⟨p, q, h1, h2, by assumption, rfl⟩
    · cases h
  · cases h
def opEq : D → D → M D := fun d e => M.look fun st => (eqT st d e).map .bl
def opNe : D → D → M D := fun d e => M.look fun st => (eqT st d e).map fun b => .bl (!b)
theorem os_eq (hu : X.A.units + 65 < cLine) : OpS X gf (compareOp .Eq) opEq := by
  intro pins s σ H x y v u Q I rx ry q
  obtain ⟨al, be, st, d, e, W, S, rd, re, p⟩ := q
  obtain ⟨t, e1, q⟩ := p.look S
  obtain ⟨b, e2, rfl⟩ := Option.map_eq_some_iff.mp e1
  obtain ⟨pd, pe, h1, h2, h3, rfl⟩ := eqT_of e2
  obtain ⟨d1, c1⟩ := rd.pyT S h1
  obtain ⟨d2, c2⟩ := re.pyT S h2
  obtain ⟨as, r1⟩ := Dp.reads I pd x v d1 rx
  obtain ⟨bs, r2⟩ := Dp.reads I pe y u d2 ry
  exact SeqAt.compareEq_reads r1 r2 c1 c2 (by omega) ⟨.bl _, H, I, rfl, q _ (.bl _)⟩
theorem os_ne (hu : X.A.units + 65 < cLine) : OpS X gf (compareOp .NotEq) opNe := by
  intro pins s σ H x y v u Q I rx ry q
  obtain ⟨al, be, st, d, e, W, S, rd, re, p⟩ := q
  obtain ⟨t, e1, q⟩ := p.look S
  obtain ⟨b, e2, rfl⟩ := Option.map_eq_some_iff.mp e1
  obtain ⟨pd, pe, h1, h2, h3, rfl⟩ := eqT_of e2
  obtain ⟨d1, c1⟩ := rd.pyT S h1
  obtain ⟨d2, c2⟩ := re.pyT S h2
  obtain ⟨as, r1⟩ := Dp.reads I pd x v d1 rx
  obtain ⟨bs, r2⟩ := Dp.reads I pe y u d2 ry
  exact SeqAt.compareNe_reads r1 r2 c1 c2 (by omega) ⟨.bl _, H, I, rfl, q _ (.bl _)⟩

/-! ### tables by keys -/
def keyOf : D → Option Key
  | .int i => some (.inl i)
  | .str x => some (.inr x)
  | _ => none
def valG {κ τ : Type} [DecidableEq κ] (kvs : List (κ × τ)) (k : κ) : Option τ := (kvs.find? fun kv => decide (kv.1 = k)).map (·.2)
def putG {κ τ : Type} [DecidableEq κ] (kvs : List (κ × τ)) (k : κ) (v : τ) : List (κ × τ) :=
  if (kvs.any fun kv => decide (kv.1 = k)) = true then kvs.map (fun kv => if kv.1 = k then (kv.1, v) else kv) else kvs ++ [(k, v)]
def dropG {κ τ : Type} [DecidableEq κ] (kvs : List (κ × τ)) (k : κ) : List (κ × τ) := kvs.filter fun kv => decide (kv.1 ≠ k)
theorem RV.key {k : Key} (r : RV K gf H al be d v) (h : keyOf d = some k) : v = kV k := by
  cases r <;> simp [keyOf] at h <;> subst h <;> rfl
theorem RV.ofKey {k : Key} (h : ∀ x, k = .inr x → PyData.strOk x = true ∧ x.length ≤ sizeLine) : RV K gf H al be (match k with | .inl i => .int i | .inr x => .str x) (kV k) := by
  cases k with
  | inl i => exact .int i
  | inr x => exact .str (h x rfl).1 (h x rfl).2
theorem RPs.val {κ : Type} [DecidableEq κ] {ks : κ} : ∀ {kvs : List (κ × D)} {ws : List (κ × V)}, RPs K gf H al be kvs ws → (valG kvs ks = none ∧ valV ws ks = none) ∨ ∃ d v, valG kvs ks = some d ∧ valV ws ks = some v ∧ RV K gf H al be d v
  | _, _, .nil => .inl ⟨rfl, rfl⟩
  | _, _, .cons (k := k) h hs => by
    by_cases e : k = ks
    · subst e
      exact .inr ⟨_, _, by simp [valG], by simp [valV], h⟩
    · have h1 := RPs.val (ks := ks) hs
      simp only [valG, valV, List.find?_cons, e, decide_false] at h1 ⊢
      exact h1
theorem RPs.any {κ : Type} [DecidableEq κ] {k : κ} : ∀ {kvs : List (κ × D)} {ws : List (κ × V)}, RPs K gf H al be kvs ws → (kvs.any fun kv => decide (kv.1 = k)) = (ws.any fun kv => decide (kv.1 = k))
  | _, _, .nil => rfl
  | _, _, .cons h hs => by rw [List.any_cons, List.any_cons, RPs.any hs]
theorem RPs.repl {κ : Type} [DecidableEq κ] {k : κ} (r : RV K gf H al be d v) : ∀ {kvs : List (κ × D)} {ws : List (κ × V)}, RPs K gf H al be kvs ws → RPs K gf H al be (kvs.map (fun kv => if kv.1 = k then (kv.1, d) else kv)) (ws.map (fun kv => if kv.1 = k then (kv.1, v) else kv))
  | _, _, .nil => .nil
  | _, _, .cons (k := j) h hs => by
    rw [List.map_cons, List.map_cons]
    by_cases e : j = k
    · simp only [e, if_true]; exact .cons r (RPs.repl r hs)
    · simp only [e, if_false]; exact .cons h (RPs.repl r hs)
theorem RPs.append {κ : Type} : ∀ {a b : List (κ × D)} {c e : List (κ × V)}, RPs K gf H al be a c → RPs K gf H al be b e → RPs K gf H al be (a ++ b) (c ++ e)
  | _, _, _, _, .nil, h => h
  | _, _, _, _, .cons h hs, k => .cons h (RPs.append hs k)
theorem RPs.put {κ : Type} [DecidableEq κ] {k : κ} (r : RV K gf H al be d v) {kvs : List (κ × D)} {ws : List (κ × V)} (h : RPs K gf H al be kvs ws) : RPs K gf H al be (putG kvs k d) (putK ws k v) := by
  unfold putG putK
  rw [h.any]
  split
  · exact h.repl r
  · exact h.append (.cons r .nil)
theorem RPs.drop {κ : Type} [DecidableEq κ] {k : κ} : ∀ {kvs : List (κ × D)} {ws : List (κ × V)}, RPs K gf H al be kvs ws → RPs K gf H al be (dropG kvs k) (dropK ws k)
  | _, _, .nil => .nil
  | _, _, .cons (k := j) h hs => by
    unfold dropG dropK
    rw [List.filter_cons, List.filter_cons]
    by_cases e : j = k
    · simp only [e, ne_eq, not_true, decide_false]; exact RPs.drop hs
    · simp only [e, ne_eq, not_false_iff, decide_true, if_true]; exact .cons h (RPs.drop hs)

/-! ### in -/
def inL (d : D) (l : List D) : Option Bool := match d.py, D.pys l with
  | some p, some ps => if min (PyData.depthAll ps) p.depth ≤ 64 then some (ps.any fun z => z.eqv p) else none
  | _, _ => none
def inT (st : Sto) (d : D) : D → Option Bool
  | .str j => (match d with
    | .str i => some (!(Builtin.Str.occurrences j i 0 j.length 1).isEmpty)
    | _ => none)
  | .tup l => inL d l
  | .lst l => inL d l
  | .ref n => (match st[n]? with
    | some (.dct kvs) => (keyOf d).map fun k => (valG kvs k).isSome
    | some (.lst l) => inL d l
    | _ => none)
  | _ => none
def opIn : D → D → M D := fun d e => M.look fun st => (inT st d e).map .bl
def opNotIn : D → D → M D := fun d e => M.look fun st => (inT st d e).map fun b => .bl (!b)
theorem inL_of {b : Bool} (h : inL d l = some b) : ∃ p ps, d.py = some p ∧ D.pys l = some ps ∧ min (PyData.depthAll ps) p.depth ≤ 64 ∧ b = ps.any fun z => z.eqv p := by
  unfold inL at h
  split at h
  · rename_i p q h1 h2
    split at h
    · cases h; exact ⟨p, q, h1, h2, by assumption, rfl⟩
    · cases h
  · cases h
theorem in_list (hu : X.A.units + 66 < cLine) {pins : List (Addr × Obj)} {s : Shared} {σ : St} {vv : Value} {a : Addr} {vs : List V} {b : Bool} (I : Inv X pins σ H s) (rx : RelV v vv) (rd : RV X.K gf H al be d v) (hs : SqL X.K H a vs) (rs : RVs X.K gf H al be l vs) (h : inL d l = some b) :
    ∃ p ps as bs, d.py = some p ∧ D.pys l = some ps ∧ b = (ps.any fun z => z.eqv p) ∧ Reads s.heap (.ref a) (.list ps) bs ∧ Reads s.heap vv p as ∧ PyData.canLayAll0 ps = true ∧ p.canLay0 = true ∧ X.A.units + 1 + min (PyData.depthAll ps) p.depth < cLine := by
  obtain ⟨p, ps, h1, h2, h3, h4⟩ := inL_of h
  obtain ⟨d1, c1⟩ := rd.dp h1
  obtain ⟨d2, c2⟩ := rs.dp h2
  obtain ⟨as, r1⟩ := Dp.reads I p v vv d1 rx
  obtain ⟨bs, r2⟩ := Dp.reads I (.list ps) (.ref a) (.ref a) (.lst hs d2) rfl
  exact ⟨p, ps, as, bs, h1, h2, h4, r2, r1, c2, c1, by omega⟩
theorem in_tuple (hu : X.A.units + 66 < cLine) {pins : List (Addr × Obj)} {s : Shared} {σ : St} {vv : Value} {a : Addr} {vs : List V} {b : Bool} (I : Inv X pins σ H s) (rx : RelV v vv) (rd : RV X.K gf H al be d v) (hs : SqT X.K H a vs) (rs : RVs X.K gf H al be l vs) (h : inL d l = some b) :
    ∃ p ps as bs, d.py = some p ∧ D.pys l = some ps ∧ b = (ps.any fun z => z.eqv p) ∧ Reads s.heap (.ref a) (.tuple ps) bs ∧ Reads s.heap vv p as ∧ PyData.canLayAll0 ps = true ∧ p.canLay0 = true ∧ X.A.units + 1 + min (PyData.depthAll ps) p.depth < cLine := by
  obtain ⟨p, ps, h1, h2, h3, h4⟩ := inL_of h
  obtain ⟨d1, c1⟩ := rd.dp h1
  obtain ⟨d2, c2⟩ := rs.dp h2
  obtain ⟨as, r1⟩ := Dp.reads I p v vv d1 rx
  obtain ⟨bs, r2⟩ := Dp.reads I (.tuple ps) (.ref a) (.ref a) (.tup hs d2) rfl
  exact ⟨p, ps, as, bs, h1, h2, h4, r2, r1, c2, c1, by omega⟩
theorem os_in (hu : X.A.units + 66 < cLine) : OpS X gf (compareOp .In) opIn := by
  intro pins s σ H x y v u Q I rx ry q
  obtain ⟨al, be, st, d, e, W, S, rd, re, p⟩ := q
  obtain ⟨t, e1, q⟩ := p.look S
  obtain ⟨b, e2, rfl⟩ := Option.map_eq_some_iff.mp e1
  have fin := q _ (.bl b)
  unfold inT at e2
  split at e2
  · split at e2
    · cases e2
      obtain ⟨rfl, _⟩ := rd.str_inv
      obtain ⟨rfl, _⟩ := re.str_inv
      exact op_in_str pins s σ H _ _ v u Q I rx ry ⟨_, _, rfl, rfl, fin⟩
    · cases e2
  · obtain ⟨a, vs, rfl, q1, r1, z1⟩ := re.tup_inv
    obtain rfl : u = Value.ref a := ry
    obtain ⟨p, ps, as, bs, h1, h2, rfl, r2, r3, c2, c1, hz⟩ := in_tuple hu I rx rd q1 r1 e2
    exact SeqAt.in_tuple_reads r2 r3 c2 c1 hz ⟨.bl _, H, I, rfl, fin⟩
  · rename_i l
    obtain ⟨a, vs, rfl, q1, r1, z1⟩ := re.lstOf (l := l) S rfl
    obtain rfl : u = Value.ref a := ry
    obtain ⟨p, ps, as, bs, h1, h2, rfl, r2, r3, c2, c1, hz⟩ := in_list hu I rx rd (.of q1) r1 e2
    exact SeqAt.in_list_reads r2 r3 c2 c1 hz ⟨.bl _, H, I, rfl, fin⟩
  · split at e2
    · rename_i n kvs hk
      cases re with
      | ref ha =>
        rename_i a
        obtain ⟨o, h2, ro⟩ := S.at' ha
        rw [hk] at h2; cases h2
        obtain ⟨ws, hw, rw'⟩ := ro
        obtain rfl : u = Value.ref a := ry
        obtain ⟨k, ek, rfl⟩ := Option.map_eq_some_iff.mp e2
        have ev := rd.key ek
        subst ev
        refine d_in (o := valV ws k) (by omega) I (DGet.k hw) rx fun s' I' => ⟨.bl _, H, I', rfl, ?_⟩
        rcases rw'.1.val (ks := k) with ⟨z1, z2⟩ | ⟨_, _, z1, z2, _⟩ <;> (rw [z1] at fin; rw [z2]; exact fin)
    · rename_i n l hk
      obtain ⟨a, vs, rfl, q1, r1, z1⟩ := re.lstOf (l := l) S (by simp [TB.lstOf, hk])
      obtain rfl : u = Value.ref a := ry
      obtain ⟨p, ps, as, bs, h1, h2, rfl, r2, r3, c2, c1, hz⟩ := in_list hu I rx rd (.of q1) r1 e2
      exact SeqAt.in_list_reads r2 r3 c2 c1 hz ⟨.bl _, H, I, rfl, fin⟩
    · cases e2
  · cases e2
theorem os_notIn (hu : X.A.units + 66 < cLine) : OpS X gf (compareOp .NotIn) opNotIn := by
  intro pins s σ H x y v u Q I rx ry q
  obtain ⟨al, be, st, d, e, W, S, rd, re, p⟩ := q
  obtain ⟨t, e1, q⟩ := p.look S
  obtain ⟨b, e2, rfl⟩ := Option.map_eq_some_iff.mp e1
  have fin := q _ (.bl (!b))
  unfold inT at e2
  split at e2
  · split at e2
    · cases e2
      obtain ⟨rfl, _⟩ := rd.str_inv
      obtain ⟨rfl, _⟩ := re.str_inv
      exact op_notIn_str pins s σ H _ _ v u Q I rx ry ⟨_, _, rfl, rfl, fin⟩
    · cases e2
  · obtain ⟨a, vs, rfl, q1, r1, z1⟩ := re.tup_inv
    obtain rfl : u = Value.ref a := ry
    obtain ⟨p, ps, as, bs, h1, h2, rfl, r2, r3, c2, c1, hz⟩ := in_tuple hu I rx rd q1 r1 e2
    exact SeqAt.notIn_tuple_reads r2 r3 c2 c1 hz ⟨.bl _, H, I, rfl, fin⟩
  · rename_i l
    obtain ⟨a, vs, rfl, q1, r1, z1⟩ := re.lstOf (l := l) S rfl
    obtain rfl : u = Value.ref a := ry
    obtain ⟨p, ps, as, bs, h1, h2, rfl, r2, r3, c2, c1, hz⟩ := in_list hu I rx rd (.of q1) r1 e2
    exact SeqAt.notIn_list_reads r2 r3 c2 c1 hz ⟨.bl _, H, I, rfl, fin⟩
  · split at e2
    · rename_i n kvs hk
      cases re with
      | ref ha =>
        rename_i a
        obtain ⟨o, h2, ro⟩ := S.at' ha
        rw [hk] at h2; cases h2
        obtain ⟨ws, hw, rw'⟩ := ro
        obtain rfl : u = Value.ref a := ry
        obtain ⟨k, ek, rfl⟩ := Option.map_eq_some_iff.mp e2
        have ev := rd.key ek
        subst ev
        refine d_notIn (o := valV ws k) (by omega) I (DGet.k hw) rx fun s' I' => ⟨.bl _, H, I', rfl, ?_⟩
        rcases rw'.1.val (ks := k) with ⟨z1, z2⟩ | ⟨_, _, z1, z2, _⟩ <;> (rw [z1] at fin; rw [z2]; exact fin)
    · rename_i n l hk
      obtain ⟨a, vs, rfl, q1, r1, z1⟩ := re.lstOf (l := l) S (by simp [TB.lstOf, hk])
      obtain rfl : u = Value.ref a := ry
      obtain ⟨p, ps, as, bs, h1, h2, rfl, r2, r3, c2, c1, hz⟩ := in_list hu I rx rd (.of q1) r1 e2
      exact SeqAt.notIn_list_reads r2 r3 c2 c1 hz ⟨.bl _, H, I, rfl, fin⟩
    · cases e2
  · cases e2

/-! ### is None -/
def D.isNon : D → Bool
  | .non => true
  | _ => false
def opIs : D → D → M D
  | d, .non => M.pure (.bl d.isNon)
  | .bl a, .bl b => M.pure (.bl (a == b))
  | _, _ => M.stuck
def opIsNot : D → D → M D
  | d, .non => M.pure (.bl (!d.isNon))
  | .bl a, .bl b => M.pure (.bl (!(a == b)))
  | _, _ => M.stuck
theorem RV.non_iff (r : RV K gf H al be d v) : decide (v = .non) = d.isNon := by
  cases r <;> simp [D.isNon]
theorem os_is : OpS X gf (compareOp .Is) opIs := by
  intro pins s σ H x y v u Q I rx ry q
  obtain ⟨al, be, st, d, e, W, S, rd, re, p⟩ := q
  unfold opIs at p
  split at p
  · cases re.non_inv
    exact op_isN pins s σ H _ _ v u Q I rx ry ⟨rfl, by rw [rd.non_iff]; exact p.ok S _ (.bl _)⟩
  · cases rd.bl_inv; cases re.bl_inv
    refine op_isBl pins s σ H _ _ v u Q I rx ry ⟨_, _, rfl, rfl, ?_⟩
    rw [← Bool.beq_eq_decide_eq]
    exact p.ok S _ (.bl _)
  · exact p.elim
theorem os_isNot : OpS X gf (compareOp .IsNot) opIsNot := by
  intro pins s σ H x y v u Q I rx ry q
  obtain ⟨al, be, st, d, e, W, S, rd, re, p⟩ := q
  unfold opIsNot at p
  split at p
  · cases re.non_inv
    exact op_notN pins s σ H _ _ v u Q I rx ry ⟨rfl, by rw [rd.non_iff]; exact p.ok S _ (.bl _)⟩
  · cases rd.bl_inv; cases re.bl_inv
    refine op_notBl pins s σ H _ _ v u Q I rx ry ⟨_, _, rfl, rfl, ?_⟩
    rw [← Bool.beq_eq_decide_eq]
    exact p.ok S _ (.bl _)
  · exact p.elim

/-! ### subscripts -/
def idxT (st : Sto) (d e : D) : Option D := match d with
  | .tup l => (match e with
    | .int i => atI l i
    | _ => none)
  | .str z => (match e with
    | .int i => (atI z.cps.toList i).map fun c => .str ⟨#[c]⟩
    | _ => none)
  | .scr l => (match e with
    | .int i => (atI l i).map .int
    | _ => none)
  | .lst l => (match e with
    | .int i => atI l i
    | _ => none)
  | .ref n => (match st[n]? with
    | some (.lst l) => (match e with
      | .int i => atI l i
      | _ => none)
    | some (.dct kvs) => (keyOf e).bind fun k => valG kvs k
    | _ => none)
  | _ => none
def opIdx : D → D → M D := fun d e => M.look fun st => idxT st d e
theorem atI_rv {ds : List D} {vs : List V} {i : Int} (r : RVs K gf H al be ds vs) (h : atI ds i = some d) : ∃ v, atI vs i = some v ∧ RV K gf H al be d v := by
  unfold atI at h ⊢
  rw [← r.length]
  obtain ⟨j, h1, h2⟩ := Option.bind_eq_some_iff.mp h
  rw [h1]
  exact r.get h2
theorem chr_ok {z : Str} {c : Nat} (h : PyData.strOk z = true) (hc : c ∈ z.cps.toList) : PyData.strOk ⟨#[c]⟩ = true := by
  unfold PyData.strOk at *
  rw [Array.all_eq_true_iff_forall_mem] at h
  have := h c (by simpa using hc)
  simpa using this
theorem is_idx (hu : X.A.units + 66 < cLine) : IxR X (fun x y H Q => ∃ al be st d e W, SR X.K gf H al be st ∧ RV X.K gf H al be d x ∧ RV X.K gf H al be e y ∧ Post X.K gf be W H al (opIdx d e st) fun t _ H1 al1 => ∀ v, RV X.K gf H1 al1 be t v → Q v H1) := by
  intro value slice pins s σ H x y v u Q I rx ry q hs
  obtain ⟨al, be, st, d, e, W, S, rd, re, p⟩ := q
  obtain ⟨t, e1, q⟩ := p.look S
  unfold idxT at e1
  split at e1
  · split at e1
    · obtain ⟨a, vs, rfl, q1, r1, z1⟩ := rd.tup_inv
      cases re.int_inv
      obtain ⟨z, h1, h2⟩ := atI_rv r1 e1
      exact ix_tup value slice pins s σ H _ _ v u Q I rx ry ⟨a, vs, _, z, rfl, rfl, q1, h1, q z h2⟩ hs
    · cases e1
  · split at e1
    · obtain ⟨rfl, h1, h2⟩ := rd.str_inv
      cases re.int_inv
      obtain ⟨c, h3, rfl⟩ := Option.map_eq_some_iff.mp e1
      obtain ⟨j, _, hj, _⟩ := atI_get h3
      exact ix_str value slice pins s σ H _ _ v u Q I rx ry ⟨_, _, c, rfl, rfl, h2, h3, q _ (.str (chr_ok h1 (List.mem_of_getElem? hj)) (by show 1 ≤ sizeLine; decide))⟩ hs
    · cases e1
  · split at e1
    · cases rd with
      | scr h1 h2 =>
        rename_i a
        cases re.int_inv
        obtain ⟨c, h3, rfl⟩ := Option.map_eq_some_iff.mp e1
        refine ix_list value slice pins s σ H _ _ v u Q I rx ry ⟨a, _, _, .int c, rfl, rfl, h1.sq, ?_, q _ (.int c)⟩ hs
        unfold atI at h3 ⊢
        rw [List.length_map]
        obtain ⟨j, h4, h5⟩ := Option.bind_eq_some_iff.mp h3
        rw [h4]
        show (List.map V.int _)[j]? = _
        rw [List.getElem?_map, h5]; rfl
    · cases e1
  · split at e1
    · rename_i l _ _
      obtain ⟨a, vs, rfl, q1, r1, z1⟩ := rd.lstOf (l := l) S rfl
      cases re.int_inv
      obtain ⟨z, h1, h2⟩ := atI_rv r1 e1
      exact ix_list value slice pins s σ H _ _ v u Q I rx ry ⟨a, vs, _, z, rfl, rfl, .of q1, h1, q z h2⟩ hs
    · cases e1
  · split at e1
    · rename_i n l hk
      split at e1
      · obtain ⟨a, vs, rfl, q1, r1, z1⟩ := rd.lstOf (l := l) S (by simp [TB.lstOf, hk])
        cases re.int_inv
        obtain ⟨z, h1, h2⟩ := atI_rv r1 e1
        exact ix_list value slice pins s σ H _ _ v u Q I rx ry ⟨a, vs, _, z, rfl, rfl, .of q1, h1, q z h2⟩ hs
      · cases e1
    · rename_i n kvs hk
      cases rd with
      | ref ha =>
        rename_i a
        obtain ⟨o, h2, ro⟩ := S.at' ha
        rw [hk] at h2; cases h2
        obtain ⟨ws, hw, rw'⟩ := ro
        obtain rfl : v = Value.ref a := rx
        obtain ⟨k, ek, ev⟩ := Option.bind_eq_some_iff.mp e1
        have ey := re.key ek
        subst ey
        rcases rw'.1.val (ks := k) with ⟨z1, z2⟩ | ⟨d', v', z1, z2, z3⟩
        · rw [z1] at ev; cases ev
        · rw [z1] at ev; cases ev
          have g : DGet H a (kV k) (some v') := z2 ▸ DGet.k hw
          exact PyProof.Rows.tail_any (ops := [.ref a, u]) (dict_typeIs I g) PySem.F.slot_dict_getitem.lookup (d_getItem (by omega) I g ry fun w' s' I' r' => ⟨v', H, I', r', q _ z3⟩) hs
    · cases e1
  · cases e1
variable {a b : Expr} {ma mb : Lo → M D} {pos : Pos} {W : WX}
theorem s_idx (hu : X.A.units + 66 < cLine) (ha : SE X gf W a ma) (hb : SE X gf W b mb) (hs : PlainIx b) : SE X gf W (.Subscript a b pos) (mOp opIdx ma mb) :=
  imE (pe_ix (is_idx hu) ha hb hs) fun _ _ _ h => two_of h

/-! ### slices -/
def cutG {τ : Type} (xs : List τ) (lo hi : Option Int) : List τ := (xs.drop (HT.sIx xs.length 0 lo)).take (HT.sIx xs.length xs.length hi - HT.sIx xs.length 0 lo)
theorem cutG_len {τ : Type} (xs : List τ) (lo hi : Option Int) : (cutG xs lo hi).length ≤ xs.length := by
  unfold cutG
  rw [List.length_take, List.length_drop]; omega
theorem RVs.cut {ds : List D} {vs : List V} (r : RVs K gf H al be ds vs) (lo hi : Option Int) : RVs K gf H al be (cutG ds lo hi) (cutV vs lo hi) := by
  unfold cutG cutV
  rw [r.length]
  exact (r.drop _).take _
theorem cut_all {τ : Type} {xs : List τ} {lo hi : Option Int} (h : HT.sIx xs.length 0 lo = 0 ∧ HT.sIx xs.length xs.length hi = xs.length) : cutG xs lo hi = xs := by
  unfold cutG
  rw [h.1, h.2]; simp
def slcT (m : Bool) (d : D) (lo hi : Option Int) : M D := fun st => match d with
  | .tup l => some (.ok (.tup (cutG l lo hi)), st)
  | .str z => some (.ok (.str (cutS z lo hi)), st)
  | .lst l => mkL m (cutG l lo hi) st
  | .ref n => (match st[n]? with
    | some (.lst l) => mkL m (cutG l lo hi) st
    | _ => none)
  | _ => none
theorem cutS_ok {z : Str} {lo hi : Option Int} (h : PyData.strOk z = true) : PyData.strOk (cutS z lo hi) = true := by
  unfold PyData.strOk at *
  rw [Array.all_eq_true_iff_forall_mem] at h ⊢
  intro c hc
  refine h c ?_
  have : c ∈ (z.cps.toList.drop (HT.sIx z.length 0 lo)).take (HT.sIx z.length z.length hi - HT.sIx z.length 0 lo) := by simpa [cutS] using hc
  simpa using List.mem_of_mem_drop (List.mem_of_mem_take this)
theorem is_slc {m : Bool} : SlR X (fun x lo hi H Q => ∃ al be st d W, SR X.K gf H al be st ∧ RV X.K gf H al be d x ∧ Post X.K gf be W H al (slcT m d lo hi st) fun t _ H1 al1 => ∀ v, RV X.K gf H1 al1 be t v → Q v H1) := by
  intro pins s σ H x v vl vu lo hi sl Q I rx hs pl pu q
  obtain ⟨al, be, st, d, W, S, rd, p⟩ := q
  unfold slcT at p
  split at p
  · obtain ⟨a, vs, rfl, q1, r1, z1⟩ := rd.tup_inv
    refine sl_tupA pins s σ H _ v vl vu lo hi sl Q I rx hs pl pu ⟨a, vs, rfl, q1, fun z => ?_, fun _ q hq => ?_⟩
    · refine p.ok S _ ?_
      rw [← r1.length] at z
      rw [cut_all z]
      exact rd
    · have e := Ext.new (o := .tup (cutV vs lo hi)) hq S
      exact p _ _ (S.new hq) e _ (.tup (.of upd_same) ((r1.cut lo hi).ext e) (Nat.le_trans (cutG_len _ _ _) z1))
  · obtain ⟨rfl, h1, h2⟩ := rd.str_inv
    exact sl_str pins s σ H _ v vl vu lo hi sl Q I rx hs pl pu ⟨_, rfl, h2, p.ok S _ (.str (cutS_ok h1) (Nat.le_trans (cutS_length _ _ _) h2))⟩
  · rename_i l
    obtain ⟨a, vs, rfl, q1, r1, z1⟩ := rd.lstOf (l := l) S rfl
    exact sl_list pins s σ H _ v vl vu lo hi sl Q I rx hs pl pu ⟨a, vs, rfl, .of q1, fun q hq => mkL_ok S (r1.cut lo hi) hq p⟩
  · split at p
    · rename_i n l hk
      obtain ⟨a, vs, rfl, q1, r1, z1⟩ := rd.lstOf (l := l) S (by simp [TB.lstOf, hk])
      exact sl_list pins s σ H _ v vl vu lo hi sl Q I rx hs pl pu ⟨a, vs, rfl, .of q1, fun q hq => mkL_ok S (r1.cut lo hi) hq p⟩
    · exact p.elim
  · exact p.elim
/-- a part of a slice -/
def asI : D → Option Int
  | .int i => some i
  | _ => none
def oNone : Lo → M (Option Int) := fun _ => M.pure none
def oSome (m : Lo → M D) : Lo → M (Option Int) := fun ρ => M.bind (m ρ) fun d => M.look fun _ => (asI d).map some
def rdO (K : PySem.W.Frag) (gf : Str → Option Addr) (W : WX) (m : Lo → M (Option Int)) : TO := fun σ H Q => ∃ al be ρ st, SR K gf H al be st ∧ RS K gf H al be ρ σ ∧
  Post K gf be (wx gf W σ) H al (m ρ st) fun o _ H1 _ => Q o H1
def SO (X : Cx) (gf : Str → Option Addr) (W : WX) (e : Option Expr) (m : Lo → M (Option Int)) : Prop := PO X e (rdO X.K gf W m)
theorem imO {e : Option Expr} {t t' : TO} (h : PO X e t) (i : ∀ σ H Q, t' σ H Q → t σ H Q) : PO X e t' := ⟨fun pins s σ H Q I q => h.run pins s σ H Q I (i σ H Q q)⟩
theorem so_none : SO X gf W none oNone := imO po_none fun σ H Q ⟨al, be, ρ, st, S, L, p⟩ => p.ok S
theorem so_some (ha : SE X gf W a ma) : SO X gf W (some a) (oSome ma) := by
  refine imO (po_some ha) fun σ H Q h => ?_
  obtain ⟨al, be, ρ, st, S, L, p⟩ := h
  refine ⟨al, be, ρ, st, S, L, p.bind.mono fun d st1 H1 al1 S1 e1 p1 v rv => ?_⟩
  obtain ⟨o, e, q⟩ := p1.look S1
  obtain ⟨i, e2, rfl⟩ := Option.map_eq_some_iff.mp e
  refine ⟨i, ?_, q⟩
  cases d <;> simp [asI] at e2
  subst e2
  exact rv.int_inv
def mSlc (m : Bool) (ma : Lo → M D) (ol oh : Lo → M (Option Int)) : Lo → M D := fun ρ => M.bind (ma ρ) fun d => M.bind (ol ρ) fun lo => M.bind (oh ρ) fun hi => slcT m d lo hi
theorem s_slc {m : Bool} {lo hi : Option Expr} {ol oh : Lo → M (Option Int)} {p2 : Pos} (ha : SE X gf W a ma) (hl : SO X gf W lo ol) (hh : SO X gf W hi oh) : SE X gf W (.Subscript a (.Slice lo hi none p2) pos) (mSlc m ma ol oh) := by
  refine imE (pe_slice (is_slc (gf := gf) (m := m)) ha hl hh) fun σ H Q h => ?_
  obtain ⟨al, be, ρ, st, S, L, p⟩ := h
  refine ⟨al, be, ρ, st, S, L, p.bind.mono fun d st1 H1 al1 S1 e1 p1 v rv => ?_⟩
  refine ⟨al1, be, ρ, st1, S1, L.ext e1, p1.bind.mono fun lo st2 H2 al2 S2 e2 p2 => ?_⟩
  refine ⟨al2, be, ρ, st2, S2, (L.ext e1).ext e2, p2.bind.mono fun hi st3 H3 al3 S3 e3 p3 => ?_⟩
  exact ⟨al3, be, st3, d, _, S3, (rv.ext e2).ext e3, p3⟩
end
end TB
set_option Elab.async false
set_option linter.all false
set_option maxRecDepth 100000
set_option maxHeartbeats 4000000
/-! TB3: calls of built-ins -/
namespace TB
open PySem PySem.Spec L2

/-- a call by values -/
def CallS (X : Cx) (gf : Str → Option Addr) (f : Value) (g : List D → M D) : Prop :=
  CallR X f (fun xs H Q => ∃ al be st ds W, SR X.K gf H al be st ∧ RVs X.K gf H al be ds xs ∧ Post X.K gf be W H al (g ds st) fun t _ H1 al1 => ∀ v, RV X.K gf H1 al1 be t v → Q v H1)
def mApp (g : List D → M D) (mr : Lo → M (List D)) : Lo → M D := fun ρ => M.bind (mr ρ) g
section
variable {X : Cx} {gf : Str → Option Addr} {K : PySem.W.Frag} {H : Hp} {al be : List Addr} {st : Sto} {d e : D} {v u : V} {l : List D} {W : WX}
theorem app_of {mr : Lo → M (List D)} {g : List D → M D} {σ : St} {H : Hp} {Q : VK} (h : rdE X.K gf W (mApp g mr) σ H Q) :
    rdA X.K gf W mr σ H fun xs H1 => ∃ al be st ds W, SR X.K gf H1 al be st ∧ RVs X.K gf H1 al be ds xs ∧ Post X.K gf be W H1 al (g ds st) fun t _ H1 al1 => ∀ v, RV X.K gf H1 al1 be t v → Q v H1 := by
  obtain ⟨al, be, ρ, st, S, L, p⟩ := h
  exact ⟨al, be, ρ, st, S, L, p.bind.mono fun ds st1 H1 al1 S1 e1 p1 vs rvs => ⟨al1, be, st1, ds, _, S1, rvs, p1⟩⟩
theorem s_blt {g : List D → M D} {x : Str} {id : String} {e : Expr} {es : List Expr} {mr : Lo → M (List D)} {p pos : Pos} (hc : CallS X gf (.builtin id) g) (hg : Gl X x) (hm : X.mg x = none) (hv : bootBuiltins x = some (.builtin id)) (ha : SA X gf W (e :: es) mr)
    (hn : x ≠ "__name__") (hdb : (x == ("__debug__" : Str)) = false) (he : starEach (e :: es) X.env = (false, eval e X.env) :: starEach es X.env) (hpl : (backTo pos (starEach es X.env)).any (·.1) = false) : SE X gf W (.Call (.Name x p) (e :: es) [] pos) (mApp g mr) :=
  imE (pe_callB hc hg hm hv ha hn hdb he hpl) fun _ _ _ h => app_of h
theorem s_ty {g : List D → M D} {x : Str} {id : String} {e : Expr} {es : List Expr} {mr : Lo → M (List D)} {p pos : Pos} (hc : CallS X gf (.type id) g) (hg : Gl X x) (hm : X.mg x = none) (hv : bootBuiltins x = some (.type id)) (ha : SA X gf W (e :: es) mr)
    (hn : x ≠ "__name__") (hdb : (x == ("__debug__" : Str)) = false) (he : starEach (e :: es) X.env = (false, eval e X.env) :: starEach es X.env) (hpl : (backTo pos (starEach es X.env)).any (·.1) = false) : SE X gf W (.Call (.Name x p) (e :: es) [] pos) (mApp g mr) :=
  imE (pe_callTy hc hg hm hv ha hn hdb he hpl) fun _ _ _ h => app_of h

theorem RVs.one {d : D} {vs : List V} (r : RVs K gf H al be [d] vs) : ∃ v, vs = [v] ∧ RV K gf H al be d v := by
  cases r with
  | cons h hs => cases hs; exact ⟨_, rfl, h⟩
theorem RVs.two {d e : D} {vs : List V} (r : RVs K gf H al be [d, e] vs) : ∃ v u, vs = [v, u] ∧ RV K gf H al be d v ∧ RV K gf H al be e u := by
  cases r with
  | cons h hs => cases hs with
    | cons h' hs' => cases hs'; exact ⟨_, _, rfl, h, h'⟩

/-! ### len -/
def lenT (st : Sto) : D → Option Nat
  | .str z => some z.length
  | .tup l => some l.length
  | .lst l => some l.length
  | .scr l => some l.length
  | .ref n => (match st[n]? with
    | some (.lst l) => some l.length
    | some (.dct l) => some l.length
    | _ => none)
  | _ => none
def gLen : List D → M D
  | [d] => M.look fun st => (lenT st d).map fun n => .int n
  | _ => M.stuck
theorem cs_len : CallS X gf (.builtin "len") gLen := by
  intro pins s σ H xs us Q I rs q
  obtain ⟨al, be, st, ds, W, S, rd, p⟩ := q
  unfold gLen at p
  split at p
  · obtain ⟨v, rfl, r⟩ := rd.one
    obtain ⟨t, e1, q⟩ := p.look S
    obtain ⟨n, e2, rfl⟩ := Option.map_eq_some_iff.mp e1
    have fin := q _ (.int n)
    unfold lenT at e2
    split at e2
    · cases e2
      obtain ⟨rfl, h1, h2⟩ := r.str_inv
      exact call_len_str pins s σ H _ us Q I rs ⟨_, rfl, h2, fin⟩
    · cases e2
      obtain ⟨a, vs, rfl, q1, r1, z1⟩ := r.tup_inv
      exact call_len_seq pins s σ H _ us Q I rs ⟨a, vs, rfl, .inr q1, by rw [← r1.length]; exact fin⟩
    · rename_i l
      cases e2
      obtain ⟨a, vs, rfl, q1, r1, z1⟩ := r.lstOf (l := l) S rfl
      exact call_len_seq pins s σ H _ us Q I rs ⟨a, vs, rfl, .inl (.of q1), by rw [← r1.length]; exact fin⟩
    · cases e2
      cases r with
      | scr h1 h2 => exact call_len_seq pins s σ H _ us Q I rs ⟨_, _, rfl, .inl h1.sq, by rw [List.length_map]; exact fin⟩
    · split at e2
      · rename_i n l hk
        cases e2
        obtain ⟨a, vs, rfl, q1, r1, z1⟩ := r.lstOf (l := l) S (by simp [TB.lstOf, hk])
        exact call_len_seq pins s σ H _ us Q I rs ⟨a, vs, rfl, .inl (.of q1), by rw [← r1.length]; exact fin⟩
      · rename_i n kvs hk
        cases e2
        cases r with
        | ref ha =>
          rename_i a
          obtain ⟨o, h2, ro⟩ := S.at' ha
          rw [hk] at h2; cases h2
          obtain ⟨ws, hw, rw'⟩ := ro
          obtain ⟨u1, rfl, ru⟩ := vals1 rs
          obtain rfl : u1 = Value.ref a := ru
          exact d_len I (.inl hw) fun t s' I' => ⟨.int _, H, I', ⟨t, rfl⟩, by rw [← rw'.1.length]; exact fin⟩
      · cases e2
    · cases e2
  · exact p.elim

/-! ### all, any -/
def boolsOf : List D → Option (List Bool)
  | [] => some []
  | .bl b :: l => (boolsOf l).map (b :: ·)
  | _ :: _ => none
theorem RVs.bools : ∀ {l : List D} {vs : List V} {bs : List Bool}, RVs K gf H al be l vs → boolsOf l = some bs → vs = bs.map V.bl
  | _, _, _, .nil, e => by cases e; rfl
  | d :: l, _, bs, .cons h hs, e => by
    cases d <;> simp [boolsOf] at e
    obtain ⟨cs, e1, rfl⟩ := e
    cases h.bl_inv
    rw [RVs.bools hs e1]; rfl
def gAll : List D → M D
  | [d] => M.look fun st => ((lstOf st d).bind boolsOf).map fun bs => .bl (bs.all id)
  | _ => M.stuck
def gAny : List D → M D
  | [d] => M.look fun st => ((lstOf st d).bind boolsOf).map fun bs => .bl (bs.any id)
  | _ => M.stuck
theorem cs_all (hc : X.calm = true) : CallS X gf (.builtin "all") gAll := by
  intro pins s σ H xs us Q I rs q
  obtain ⟨al, be, st, ds, W, S, rd, p⟩ := q
  unfold gAll at p
  split at p
  · obtain ⟨v, rfl, r⟩ := rd.one
    obtain ⟨t, e1, q⟩ := p.look S
    obtain ⟨bs, e2, rfl⟩ := Option.map_eq_some_iff.mp e1
    obtain ⟨l, e3, e4⟩ := Option.bind_eq_some_iff.mp e2
    obtain ⟨a, vs, rfl, q1, r1, z1⟩ := r.lstOf S e3
    have ev := r1.bools e4
    subst ev
    exact cr_all hc pins s σ H _ us Q I rs ⟨a, bs, rfl, .of q1, q _ (.bl _)⟩
  · exact p.elim
theorem cs_any (hc : X.calm = true) : CallS X gf (.builtin "any") gAny := by
  intro pins s σ H xs us Q I rs q
  obtain ⟨al, be, st, ds, W, S, rd, p⟩ := q
  unfold gAny at p
  split at p
  · obtain ⟨v, rfl, r⟩ := rd.one
    obtain ⟨t, e1, q⟩ := p.look S
    obtain ⟨bs, e2, rfl⟩ := Option.map_eq_some_iff.mp e1
    obtain ⟨l, e3, e4⟩ := Option.bind_eq_some_iff.mp e2
    obtain ⟨a, vs, rfl, q1, r1, z1⟩ := r.lstOf S e3
    have ev := r1.bools e4
    subst ev
    exact cr_any hc pins s σ H _ us Q I rs ⟨a, bs, rfl, .of q1, q _ (.bl _)⟩
  · exact p.elim

/-! ### tuple, list -/
def gTuple : List D → M D
  | [d] => fun st => match d with
    | .tup l => some (.ok (.tup l), st)
    | _ => (match lstOf st d with
      | some l => mkT l st
      | none => none)
  | _ => M.stuck
theorem cs_tuple : CallS X gf (.type "tuple") gTuple := by
  intro pins s σ H xs us Q I rs q
  obtain ⟨al, be, st, ds, W, S, rd, p⟩ := q
  unfold gTuple at p
  split at p
  · obtain ⟨v, rfl, r⟩ := rd.one
    split at p
    · have fin := p.ok S _ r
      obtain ⟨a, vs, rfl, q1, r1, z1⟩ := r.tup_inv
      exact call_tuple_of pins s σ H _ us Q I rs ⟨a, vs, rfl, .inr ⟨q1, fin⟩⟩
    · split at p
      · rename_i l hl
        obtain ⟨a, vs, rfl, q1, r1, z1⟩ := r.lstOf S hl
        exact call_tuple_of pins s σ H _ us Q I rs ⟨a, vs, rfl, .inl ⟨.of q1, fun q hq => mkT_ok S r1 hq p⟩⟩
      · exact p.elim
  · exact p.elim
def ofKey : Key → D
  | .inl i => .int i
  | .inr x => .str x
def gList (m : Bool) : List D → M D
  | [d] => fun st => match d with
    | .tup l => mkL m l st
    | _ => (match lstOf st d with
      | some l => mkL m l st
      | none => none)
  | _ => M.stuck
theorem cs_list {m : Bool} : CallS X gf (.type "list") (gList m) := by
  intro pins s σ H xs us Q I rs q
  obtain ⟨al, be, st, ds, W, S, rd, p⟩ := q
  unfold gList at p
  split at p
  · obtain ⟨v, rfl, r⟩ := rd.one
    split at p
    · obtain ⟨a, vs, rfl, q1, r1, z1⟩ := r.tup_inv
      exact call_list_of pins s σ H _ us Q I rs ⟨a, vs, rfl, .inr q1, fun q hq => mkL_ok S r1 hq p⟩
    · split at p
      · rename_i l hl
        obtain ⟨a, vs, rfl, q1, r1, z1⟩ := r.lstOf S hl
        exact call_list_of pins s σ H _ us Q I rs ⟨a, vs, rfl, .inl (.of q1), fun q hq => mkL_ok S r1 hq p⟩
      · exact p.elim
  · exact p.elim

/-! ### int, str -/
def gInt : List D → M D
  | [.int i] => M.pure (.int i)
  | [.bl b] => M.pure (.int (if b then 1 else 0))
  | [.str a] => fun st => match PySem.intText? a with
    | some n => if a.length ≤ 640 then some (.ok (.int n), st) else none
    | none => none
  | _ => M.stuck
theorem cs_int : CallS X gf (.type "int") gInt := by
  intro pins s σ H xs us Q I rs q
  obtain ⟨al, be, st, ds, W, S, rd, p⟩ := q
  unfold gInt at p
  split at p
  · obtain ⟨v, rfl, r⟩ := rd.one
    cases r.int_inv
    exact call_int1 pins s σ H _ us Q I rs (.inl ⟨_, rfl, p.ok S _ (.int _)⟩)
  · obtain ⟨v, rfl, r⟩ := rd.one
    cases r.bl_inv
    exact call_int1 pins s σ H _ us Q I rs (.inr ⟨_, rfl, p.ok S _ (.int _)⟩)
  · obtain ⟨v, rfl, r⟩ := rd.one
    obtain ⟨rfl, _⟩ := r.str_inv
    split at p
    · rename_i n hn
      split at p
      · rename_i z
        exact call_int_str pins s σ H _ us Q I rs ⟨_, _, rfl, hn, z, p.ok S _ (.int _)⟩
      · exact p.elim
    · exact p.elim
  · exact p.elim
theorem strOk_of (s : String) : PyData.strOk (Str.ofString s) = true := by
  unfold PyData.strOk
  rw [Str.ofString_eq_toList]
  rw [Array.all_eq_true_iff_forall_mem]
  intro c hc
  simp only [List.mem_toArray, List.mem_map] at hc
  obtain ⟨ch, _, rfl⟩ := hc
  have h := ch.valid
  simp only [UInt32.isValidChar, Nat.isValidChar] at h
  have : ch.toNat = ch.val.toNat := rfl
  simp only [decide_eq_true_eq]
  omega
def gStr : List D → M D
  | [.int i] => fun st => if i.natAbs.log2 < 1920 ∧ (Str.ofString (toString i)).length ≤ sizeLine then some (.ok (.str (Str.ofString (toString i))), st) else none
  | [.str a] => M.pure (.str a)
  | _ => M.stuck
theorem cs_str : CallS X gf (.type "str") gStr := by
  intro pins s σ H xs us Q I rs q
  obtain ⟨al, be, st, ds, W, S, rd, p⟩ := q
  unfold gStr at p
  split at p
  · obtain ⟨v, rfl, r⟩ := rd.one
    cases r.int_inv
    split at p
    · rename_i z
      exact call_str_int pins s σ H _ us Q I rs ⟨_, rfl, z.1, p.ok S _ (.str (strOk_of _) z.2)⟩
    · exact p.elim
  · obtain ⟨v, rfl, r⟩ := rd.one
    obtain ⟨rfl, h1, h2⟩ := r.str_inv
    exact SkE.call_str_str pins s σ H _ us Q I rs ⟨_, rfl, p.ok S _ (.str h1 h2)⟩
  · exact p.elim

/-! ### isinstance -/
def tyName (st : Sto) : D → Option String
  | .non => some "NoneType"
  | .bl _ => some "bool"
  | .int _ => some "int"
  | .str _ => some "str"
  | .tup _ => some "tuple"
  | .lst _ => some "list"
  | .ref n => (match st[n]? with
    | some (.lst _) => some "list"
    | some (.dct _) => some "dict"
    | _ => none)
  | _ => none
theorem RV.ty {n : String} (S : SR K gf H al be st) (r : RV K gf H al be d v) (h : tyName st d = some n) : TyX K H v (.type n) := by
  cases r with
  | non => cases h; exact .base .non
  | bl b => cases h; exact .base (.bl b)
  | int i => cases h; exact .base (.int i)
  | str h1 h2 => cases h; exact .base (.str _)
  | tup h1 h2 z =>
    cases h
    rcases h1 with (h1 | ⟨o, h1⟩) | ⟨o, its, n, h1, h2, h3⟩
    · exact .base (.tup h1)
    · exact .fTuple h1
    · exact .kTuple h1 h2
  | lst h1 h2 z => cases h; exact .base (.lst h1.1)
  | @ref n a h1 =>
    obtain ⟨o, h2, ro⟩ := S.at' h1
    simp only [tyName, h2] at h
    cases o with
    | lst l => obtain ⟨vs, q, _⟩ := ro; cases h; exact .base (.lst q)
    | dct l => obtain ⟨vs, q, _⟩ := ro; cases h; exact .base (.dK q)
    | ins c fs => cases h
  | fn _ => cases h
  | scr h1 h2 => cases h
/-- x is of the built-in class T -/
def isi (n T : String) : Option Bool := kitB n T
def gIsi (T : String) : D → M D := fun d => M.look fun st => ((tyName st d).bind fun n => isi n T).map .bl
def mIsi (T : String) (m : Lo → M D) : Lo → M D := fun ρ => M.bind (m ρ) (gIsi T)
theorem s_isi {T : String} {x t : Str} {e : Expr} {m : Lo → M D} {p p2 pos : Pos} (ha : SE X gf W e m) (hg : Gl X "isinstance") (hm : X.mg "isinstance" = none) (ht : Gl X t) (htm : X.mg t = none) (hv : bootBuiltins t = some (.type T)) (hn : t ≠ "__name__") (hdb : (t == ("__debug__" : Str)) = false)
    (he : starEach [e, .Name t p2] X.env = (false, eval e X.env) :: starEach [.Name t p2] X.env) : SE X gf W (.Call (.Name "isinstance" p) [e, .Name t p2] [] pos) (mIsi T m) := by
  have pt : PE X (.Name t p2) (tC (.ty T)) := pe_bltn ht htm hv rfl hn hdb
  refine imE (pe_callB call_isi hg hm (by decide +kernel) (pa_cons ha (pa_cons pt pa_nil) he) (by decide) (by decide) he) fun σ H Q h => ?_
  obtain ⟨al, be, ρ, st, S, L, p⟩ := h
  refine ⟨al, be, ρ, st, S, L, p.bind.mono fun d st1 H1 al1 S1 e1 p1 v rv => ?_⟩
  obtain ⟨t, h1, q⟩ := p1.look S1
  obtain ⟨b, h2, rfl⟩ := Option.map_eq_some_iff.mp h1
  obtain ⟨n, h3, h4⟩ := Option.bind_eq_some_iff.mp h2
  exact ⟨v, .ty T, .type n, .type T, b, rfl, .ty T, rv.ty S1 h3, kit_ty h4, q _ (.bl b)⟩

/-! ### - a -/
def gNeg : D → M D
  | .int i => M.pure (.int (-i))
  | _ => M.stuck
def mNeg (m : Lo → M D) : Lo → M D := fun ρ => M.bind (m ρ) gNeg
theorem s_neg {a : Expr} {ma : Lo → M D} {pos : Pos} (ha : SE X gf W a ma) : SE X gf W (.UnaryOp .USub a pos) (mNeg ma) := by
  refine imE (pe_un un_neg ha) fun σ H Q h => ?_
  obtain ⟨al, be, ρ, st, S, L, p⟩ := h
  refine ⟨al, be, ρ, st, S, L, p.bind.mono fun d st1 H1 al1 S1 e1 p1 v rv => ?_⟩
  unfold gNeg at p1
  split at p1
  · cases rv.int_inv
    exact ⟨_, rfl, p1.ok S1 _ (.int _)⟩
  · exact p1.elim
end
end TB
set_option Elab.async false
set_option linter.all false
set_option maxRecDepth 100000
set_option maxHeartbeats 4000000
/-! TR: xs[::-1] of a list, a tuple -/
namespace TB
def revS (z : PySem.Str) : PySem.Str := ⟨z.cps.toList.reverse.toArray⟩
theorem revS_length (z : PySem.Str) : (revS z).length = z.length := by simp [revS, PySem.Str.length]
theorem revS_ok {z : PySem.Str} (h : PySem.PyData.strOk z = true) : PySem.PyData.strOk (revS z) = true := by
  unfold PySem.PyData.strOk at *
  rw [Array.all_eq_true_iff_forall_mem] at h ⊢
  intro c hc
  exact h c (by simpa [revS] using hc)
open PySem PySem.Spec L2 PyProof.Rows HT
section
variable {prog : Program} {w : World} {A : Around} {E : Value → Shared → Prop} {s : Shared}
theorem applied_rev {sl : Addr} {vl vu vk : Value} {n : Nat} {Q : Int × Int × Nat → Shared → Prop} (hs : s.heap.IsSliceOf sl vl vu vk) (pl : IsPart vl none) (pu : IsPart vu none) (pk : IsPart vk (some (-1)))
    (h : Q ((n : Int) - 1, -1, n) s) : wpAny (model prog w) A (Builtin.Slice.sliceApplied (.ref sl) (pure (n : Int))) Q E s := by
  obtain ⟨os, hos, hcs, hds⟩ := id hs
  unfold Builtin.Slice.sliceApplied Builtin.Slice.sliceFields
  refine wpAny_bind (wpAny_bind (wpAny_field hos hds (x := vl) rfl (wpAny_bind (wpAny_field hos hds (x := vu) rfl (wpAny_bind (wpAny_field hos hds (x := vk) rfl (wpAny_pure ?_)))))))
  refine wpAny_bind (slicePart_ pk ?_)
  show wpAny _ _ (if ((-1 : Int) == 0) = true then _ else _) _ _ s
  rw [if_neg (by decide)]
  refine wpAny_bind (slicePart_ pl (wpAny_bind (slicePart_ pu (wpAny_bind (wpAny_pure ?_)))))
  show wpAny _ _ (pure ((n : Int) - 1, (-1 : Int), Builtin.Slice.slicePlaces ((n : Int) - 1) (-1) (-1))) _ _ s
  have e : Builtin.Slice.slicePlaces ((n : Int) - 1) (-1) (-1) = n := by
    unfold Builtin.Slice.slicePlaces
    rw [if_neg (by omega), Int.neg_neg, Int.ediv_one]
    split <;> omega
  rw [e]
  exact wpAny_pure h
theorem pick_rev (xs : Array Value) : ((List.range xs.size).filterMap fun (m : Nat) => xs[(((xs.size : Int) - 1) + (m : Int) * (-1)).toNat]?).toArray = xs.toList.reverse.toArray := by
  congr 1
  apply List.ext_getElem?
  intro i
  have e : ∀ k, k ≤ xs.size → ((List.range k).filterMap fun (m : Nat) => xs[(((xs.size : Int) - 1) + (m : Int) * (-1)).toNat]?) = (xs.toList.reverse).take k := by
    intro k
    induction k with
    | zero => intro _; simp
    | succ k ih =>
      intro hk
      rw [List.range_succ, List.filterMap_append, ih (by omega), List.take_add_one]
      have e1 : (((xs.size : Int) - 1) + (k : Int) * (-1)).toNat = xs.size - 1 - k := by omega
      have e2 : xs.toList.reverse[k]? = xs[xs.size - 1 - k]? := by
        rw [List.getElem?_reverse (by simp; omega)]
        simp
      simp only [List.filterMap_cons, List.filterMap_nil, e1, e2]
      cases xs[xs.size - 1 - k]? <;> rfl
  rw [e xs.size (Nat.le_refl _)]
  have : (xs.toList.reverse).take xs.size = xs.toList.reverse := List.take_of_length_le (by simp)
  rw [this]
theorem getItem_tuple_rev {t sl : Addr} {items : Array Value} {vl vu vk : Value} {Q : Value → Shared → Prop} (ht : IsTup s.heap t items) (hs : s.heap.IsSliceOf sl vl vu vk) (pl : IsPart vl none) (pu : IsPart vu none) (pk : IsPart vk (some (-1)))
    (h : Q (.ref s.heap.objs.size) { s with heap := s.heap.push { cls := .type "tuple", data := .seq items.toList.reverse.toArray } })
    (hsz : items.size ≤ sizeLine) : wpAny (model prog w) A (getItem (.ref t) (.ref sl)) Q E s := by
  have htake : sizeOk (.seq items.toList.reverse.toArray) := by
    show items.toList.reverse.toArray.size ≤ sizeLine
    simpa using hsz
  obtain ⟨os, hos, hcs, hds⟩ := id hs
  have hTs : s.TypeIs (.ref sl) "slice" := ⟨os, hos, hcs⟩
  unfold getItem
  try with_reducible refine wpAny_holding ?_
  first | refine wpAny_bind (wpAny_pure ?_) | skip
  refine wpAny_bind (wpAny_sequenceKey ht.typeIs (by decide) ?_)
  refine wpAny_bind (wpAny_callSpecial?_slot (name := Str.ofString "__getitem__") ht.typeIs PyProof.Rows.slot_tuple_getitem
    (wpAny_call_entry PyProof.Rows.slot_tuple_getitem ht.typeIs entry_tuple_getitem ?_ (args_tuple_getitem _ _)))
  show wpAny _ _ (Builtin.Tuple.tupleItemsOf (.ref t) >>= _) _ _ s
  refine wpAny_bind (tupleItemsOf_ ht ?_)
  refine wpAny_bind (wpAny_typeOf hTs ?_)
  rw [if_pos (by decide)]
  refine wpAny_bind (applied_rev hs pl pu pk ?_)
  have hno : ¬ ((((items.size : Int) - 1) == 0 && (-1 : Int) == 1 && items.size == items.size) = true) := by simp
  show wpAny _ _ (if (((items.size : Int) - 1) == 0 && (-1 : Int) == 1 && items.size == items.size) = true then _ else _) _ _ s
  rw [if_neg hno, pick_rev]
  first
    | exact wpAny_bind (m := Builtin.Tuple.tupleExact _) (wpAny_newObj_type (wpAny_pure ⟨_, rfl, wpAny_pure h⟩) htake)
    | exact wpAny_bind (m := Builtin.Tuple.tupleExact _) (wpAny_newObj_type (wpAny_bind (wpAny_pure (wpAny_pure ⟨_, rfl, wpAny_pure h⟩))) htake)
    | exact wpAny_bind (wpAny_bind (m := Builtin.Tuple.tupleExact _) (wpAny_newObj_type (wpAny_pure (wpAny_pure ⟨_, rfl, wpAny_pure h⟩)) htake))
    | exact wpAny_bind (wpAny_bind (m := Builtin.Tuple.tupleExact _) (wpAny_newObj_type (wpAny_pure ⟨_, rfl, wpAny_pure h⟩) htake))
end
section
variable {X : Cx}
theorem filterMap_rev (c : Array Nat) : ((List.range c.size).map fun k => c.size - 1 - k).filterMap (c[·]?) = c.toList.reverse := by
  rw [PyProof.Rows.filterMap_get c _ (fun i hi => by
    obtain ⟨k, hk, rfl⟩ := List.mem_map.mp hi
    have := List.mem_range.mp hk
    omega)]
  apply List.ext_getElem
  · simp
  · intro i h1 h2
    simp at h1
    have : c.size - 1 - i < c.size := by omega
    simp [Array.getD, this, List.getElem_reverse]
/-- e[::-1], e a list or a tuple -/
def tRev (K : PySem.W.Frag) (te : TE) : TE := fun σ H Q => te σ H fun x H1 => (∃ a xs, x = .ref a ∧ SqL K H1 a xs ∧ ∀ p, H1 p = none → Q (.ref p) (upd H1 p (.lst xs.reverse))) ∨ (∃ a xs, x = .ref a ∧ SqT K H1 a xs ∧ ∀ p, H1 p = none → Q (.ref p) (upd H1 p (.tup xs.reverse))) ∨ (∃ z, x = .str z ∧ z.length ≤ sizeLine ∧ Q (.str (revS z)) H1)
theorem pe_rev {e : Expr} {te : TE} {k : Nat} {p1 p2 p3 pos : Pos} (he : PE X e te) : PE X (.Subscript e (.Slice none none (some (.UnaryOp .USub (.Constant (.int 1) k p1) p2)) p3) pos) (tRev X.K te) := by
  refine ⟨fun pins s σ H Q I h => ?_⟩
  refine Subscript_ (thn (he.run pins s σ H _ I h) fun v s1 ⟨x, H1, I1, r1, q1⟩ => ?_)
  have hst : PO X (some (.UnaryOp .USub (.Constant (.int 1) k p1) p2)) (tPart (tUn (rU fun i => .int (-i)) (tC (.int 1)))) := po_some (pe_un un_neg pe_int)
  refine wpAny_Slice (thn (po_none.run pins s1 σ H1 (fun o H2 => o = none ∧ H2 = H1) I1 ⟨rfl, rfl⟩) fun vl s2 ⟨l, H2, I2, pl, el, e2⟩ => ?_)
  subst el e2
  refine thn (po_none.run pins s2 σ H2 (fun o H3 => o = none ∧ H3 = H2) I2 ⟨rfl, rfl⟩) fun vu s3 ⟨u, H3, I3, pu, eu, e3⟩ => ?_
  subst eu e3
  refine thn (hst.run pins s3 σ H3 (fun o H4 => o = some (-1) ∧ H4 = H3) I3 ⟨1, rfl, -1, rfl, rfl, rfl⟩) fun vs s4 ⟨o, H4, I4, ps, eo, e4⟩ => ?_
  subst eo e4
  have I5 : Inv X pins σ H4 { s4 with heap := s4.heap.push { cls := .type "slice", data := .fields #[vl, vu, vs] } } := I4.kept (t' := s4.toks) fun b ob q => Heap.get?_push_of_some _ q
  rcases q1 with ⟨a, xs, ex, hx, q⟩ | ⟨a, xs, ex, hx, q⟩ | ⟨z, ex, hz, q⟩
  · subst ex
    cases r1
    obtain ⟨its, r, ht, hz⟩ := I5.list hx
    have hlen := r.length
    show wpAny (model X.prog X.w) X.A (subscriptTail e (.Slice none none (some (.UnaryOp .USub (.Constant (.int 1) k p1) p2)) p3) (.ref a) (.ref s4.heap.objs.size)) (EP X pins σ Q) X.xe { s4 with heap := s4.heap.push { cls := .type "slice", data := .fields #[vl, vu, vs] } }
    refine tail_any (ops := [.ref a, .ref s4.heap.objs.size]) ht.isList.typeIs (PySem.slot_list_getitem.lookup) ?_ (by with_unfolding_all rfl)
    refine wpAny_getItem_list_slice ht.isList (Heap.IsSliceOf.new _ vl vu vs) pl pu ps (by decide) ?_ (by rw [List.size_toArray]; omega)
    rw [PySem.W.krv_pick]
    refine ⟨.ref _, _, I5.laid (t' := s4.toks) (o := .lst xs.reverse) (fun b ob q => Heap.get?_push_of_some _ q) (Nat.le_refl _) ?_, rfl, q _ (I5.hok.fresh (Nat.le_refl _))⟩
    exact ⟨by rw [List.length_reverse]; exact hz, _, 0, r.reverse, Heap.get?_push_size _ rfl⟩
  · subst ex
    cases r1
    obtain ⟨its, r, ht, hz⟩ := I5.tuple hx
    have hlen := r.length
    show wpAny (model X.prog X.w) X.A (subscriptTail e (.Slice none none (some (.UnaryOp .USub (.Constant (.int 1) k p1) p2)) p3) (.ref a) (.ref s4.heap.objs.size)) (EP X pins σ Q) X.xe { s4 with heap := s4.heap.push { cls := .type "slice", data := .fields #[vl, vu, vs] } }
    refine tail_any (ops := [.ref a, .ref s4.heap.objs.size]) ht.typeIs (PyProof.Rows.slot_tuple_getitem.lookup) ?_ (by with_unfolding_all rfl)
    refine getItem_tuple_rev ht (Heap.IsSliceOf.new _ vl vu vs) pl pu ps ?_ (by rw [List.size_toArray]; omega)
    refine ⟨.ref _, _, I5.laid (t' := s4.toks) (o := .tup xs.reverse) (fun b ob q => Heap.get?_push_of_some _ q) (Nat.le_refl _) ?_, rfl, q _ (I5.hok.fresh (Nat.le_refl _))⟩
    exact ⟨by rw [List.length_reverse]; exact hz, _, r.reverse, IsTup.new _ _⟩
  · subst ex
    obtain ⟨t, rfl⟩ := r1
    obtain ⟨l0, rfl, e0⟩ := IsPart.raw pl
    obtain ⟨u0, rfl, e1⟩ := IsPart.raw pu
    obtain ⟨k0, rfl, e2⟩ := IsPart.raw ps
    show wpAny (model X.prog X.w) X.A (subscriptTail e (.Slice none none (some (.UnaryOp .USub (.Constant (.int 1) k p1) p2)) p3) (.str z t) (.ref s4.heap.objs.size)) (EP X pins σ Q) X.xe _
    refine tail_any (ops := [.ref s4.heap.objs.size]) (typeIs_str _ _ _) (PySem.F.slot_str_getitem.lookup) ?_ (by with_unfolding_all rfl)
    refine wpAny_getItem_str_slice (l := l0) (u := u0) (st := k0) ⟨_, Heap.get?_push_size _ rfl, rfl, rfl⟩ (by rw [e2]; rfl) ?_
    unfold sliceMade slicePicked
    rw [e0, e1, e2]
    show Made.post (if ((-1 : Int) == 1 && _) = true then _ else Made.str ⟨((Builtin.Str.strSliceIndices none none (-1) z.length).filterMap (z.cps[·]?)).toArray⟩) _ _
    rw [if_neg (by simp), PyProof.Rows.picked_rev]
    have e : ((List.range z.length).map fun k => z.length - 1 - k).filterMap (z.cps[·]?) = z.cps.toList.reverse := filterMap_rev z.cps
    rw [e]
    exact ⟨by show (revS z).length ≤ sizeLine; rw [revS_length]; exact hz, .str _, H4, I5.tok _, ⟨_, rfl⟩, q⟩
end
section
variable {X : Cx} {gf : Str → Option Addr} {W : WX}
def gRev (m : Bool) (d : D) : M D := fun st => match d with
  | .tup l => some (.ok (.tup l.reverse), st)
  | .str z => some (.ok (.str (revS z)), st)
  | _ => (match lstOf st d with
    | some l => mkL m l.reverse st
    | none => none)
def mRev (m : Bool) (ma : Lo → M D) : Lo → M D := fun ρ => M.bind (ma ρ) (gRev m)
theorem s_rev {m : Bool} {a : Expr} {ma : Lo → M D} {k : Nat} {p1 p2 p3 pos : Pos} (ha : SE X gf W a ma) : SE X gf W (.Subscript a (.Slice none none (some (.UnaryOp .USub (.Constant (.int 1) k p1) p2)) p3) pos) (mRev m ma) := by
  refine imE (pe_rev ha) fun σ H Q h => ?_
  obtain ⟨al, be, ρ, st, S, L, p⟩ := h
  refine ⟨al, be, ρ, st, S, L, p.bind.mono fun d st1 H1 al1 S1 e1 p1 v rv => ?_⟩
  unfold gRev at p1
  split at p1
  · obtain ⟨a, vs, rfl, q1, r1, z1⟩ := rv.tup_inv
    refine .inr (.inl ⟨a, vs, rfl, q1, fun q hq => ?_⟩)
    have e := Ext.new (o := .tup vs.reverse) hq S1
    exact p1 _ _ (S1.new hq) e _ (.tup (.of upd_same) (r1.reverse.ext e) (by rw [List.length_reverse]; exact z1))
  · obtain ⟨rfl, h1, h2⟩ := rv.str_inv
    exact .inr (.inr ⟨_, rfl, h2, p1.ok S1 _ (.str (revS_ok h1) (by rw [revS_length]; exact h2))⟩)
  · split at p1
    · rename_i l hl
      obtain ⟨a, vs, rfl, q1, r1, z1⟩ := rv.lstOf S1 hl
      exact .inl ⟨a, vs, rfl, .of q1, fun q hq => mkL_ok S1 r1.reverse hq p1⟩
    · exact p1.elim
end
end TB
set_option Elab.async false
set_option linter.all false
set_option maxRecDepth 100000
set_option maxHeartbeats 4000000
/-! TB4: methods of built-ins, what is walked, loops, comprehensions -/
namespace TB
open PySem PySem.Spec L2

/-! ### methods of built-ins -/
def MtS (X : Cx) (gf : Str → Option Addr) (id : String) (g : D → List D → M D) : Prop :=
  MtR X id (fun x xs H Q => ∃ al be st d ds W, SR X.K gf H al be st ∧ RV X.K gf H al be d x ∧ RVs X.K gf H al be ds xs ∧ Post X.K gf be W H al (g d ds st) fun t _ H1 al1 => ∀ v, RV X.K gf H1 al1 be t v → Q v H1)
inductive BT where
  | list | str | dict
def BT.nm : BT → String
  | .list => "list"
  | .str => "str"
  | .dict => "dict"
def btOk (st : Sto) (d : D) : BT → Bool
  | .list => (lstOf st d).isSome
  | .str => (match d with
    | .str _ => true
    | _ => false)
  | .dict => (match d with
    | .ref n => (match st[n]? with
      | some (.dct _) => true
      | _ => false)
    | _ => false)
section
variable {X : Cx} {gf : Str → Option Addr} {K : PySem.W.Frag} {H : Hp} {al be : List Addr} {st : Sto} {d e : D} {v u : V} {l : List D} {W : WX}
theorem RV.btOk {T : BT} (S : SR K gf H al be st) (r : RV K gf H al be d v) (h : TB.btOk st d T = true) : tyV K T.nm v H := by
  cases T with
  | list =>
    obtain ⟨l, hl⟩ := Option.isSome_iff_exists.mp h
    obtain ⟨a, vs, rfl, q1, r1, z1⟩ := r.lstOf S hl
    exact .inl ⟨rfl, vs, .of q1⟩
  | str =>
    unfold TB.btOk at h
    cases d <;> simp at h
    obtain ⟨rfl, _⟩ := r.str_inv
    rfl
  | dict =>
    unfold TB.btOk at h
    cases r with
    | @ref n a h1 =>
      obtain ⟨o, h2, ro⟩ := S.at' h1
      simp only [h2] at h
      cases o with
      | dct kvs => obtain ⟨ws, q, _⟩ := ro; exact .inr (.inr (.inl ⟨rfl, .inl ⟨_, q⟩⟩))
      | lst l => simp at h
      | ins c fs => simp at h
    | _ => simp at h
def mBM (T : BT) (g : D → List D → M D) (mo : Lo → M D) (mr : Lo → M (List D)) : Lo → M D := fun ρ => M.bind (mo ρ) fun d => M.bind (M.look fun st => if btOk st d T then some () else none) fun _ => M.bind (mr ρ) fun ds => g d ds
theorem look_if {τ : Type} {W : Str → Hp → Prop} {f : Sto → Bool} {m : Unit → M τ} {k : τ → Sto → Hp → List Addr → Prop} (S : SR K gf H al be st) (p : Post K gf be W H al (M.bind (M.look fun st => if f st then some () else none) m st) k) : f st = true ∧ Post K gf be W H al (m () st) k := by
  obtain ⟨_, e, q⟩ := p.bind.look S
  split at e
  · exact ⟨by assumption, q⟩
  · cases e
variable {o a : Expr} {es : List Expr} {mo : Lo → M D} {mr : Lo → M (List D)} {name : Str} {apos cpos : Pos} {T : BT} {id : String} {g : D → List D → M D}
theorem s_bm (pa : PlainAttrs T.nm) (slot : Slot T.nm name id) (hty : typeOf (.builtin id) = pure (.type "method_descriptor")) (hm : MtS X gf id g) (ho : SE X gf W o mo) (ha : SA X gf W (a :: es) mr)
    (hbase : attributeBase o name X.env (eval o X.env) = eval o X.env)
    (hfew : ((backTo cpos (starEach (a :: es) X.env)).all (fun x => !x.1) && (backToKw cpos (keywordEach [] X.env)).all (fun x => x.1.isSome)
      && decide ((a :: es).length + ([] : List Keyword).length + (if ([] : List Keyword).isEmpty then 0 else 1) < 30)) = true)
    (hline : (apos.endLine == cpos.line) = true) (hs : starEach (a :: es) X.env = (false, eval a X.env) :: starEach es X.env) (hplain : (backTo cpos (starEach es X.env)).any (·.1) = false) :
    SE X gf W (.Call (.Attribute o name apos) (a :: es) [] cpos) (mBM T g mo mr) := by
  refine imE (pe_bm pa slot hty hm ho ha hbase hfew hline hs hplain) fun σ H Q h => ?_
  obtain ⟨al, be, ρ, st, S, L, p⟩ := h
  refine ⟨al, be, ρ, st, S, L, p.bind.mono fun d st1 H1 al1 S1 e1 p1 v rv => ?_⟩
  obtain ⟨hb, p1⟩ := look_if S1 p1
  refine ⟨rv.btOk S1 hb, al1, be, ρ, st1, S1, L.ext e1, p1.bind.mono fun ds st2 H2 al2 S2 e2 p2 vs rvs => ?_⟩
  exact ⟨al2, be, st2, d, ds, _, S2, rv.ext e2, rvs, p2⟩
theorem s_bm0 (pa : PlainAttrs T.nm) (slot : Slot T.nm name id) (hty : typeOf (.builtin id) = pure (.type "method_descriptor")) (hm : MtS X gf id g) (ho : SE X gf W o mo)
    (hbase : attributeBase o name X.env (eval o X.env) = eval o X.env) (hline : (apos.endLine == cpos.line) = true) : SE X gf W (.Call (.Attribute o name apos) [] [] cpos) (mBM T g mo aNil) := by
  refine imE (pe_bm0 pa slot hty hm ho hbase hline) fun σ H Q h => ?_
  obtain ⟨al, be, ρ, st, S, L, p⟩ := h
  refine ⟨al, be, ρ, st, S, L, p.bind.mono fun d st1 H1 al1 S1 e1 p1 v rv => ?_⟩
  obtain ⟨hb, p1⟩ := look_if S1 p1
  exact ⟨rv.btOk S1 hb, al1, be, st1, d, [], wx gf W σ, S1, rv, .nil, p1.bind.ok S1⟩

/-- a list of the store -/
theorem RV.lstRef {n : Nat} (S : SR K gf H al be st) (r : RV K gf H al be (.ref n) v) (h : st[n]? = some (.lst l)) : ∃ a vs, v = .ref a ∧ al[n]? = some a ∧ H a = some (.lst vs) ∧ RVs K gf H al be l vs ∧ l.length ≤ sizeLine := by
  cases r with
  | ref ha =>
    obtain ⟨o, h2, ro⟩ := S.at' ha
    rw [h] at h2; cases h2
    obtain ⟨vs, q, r, z⟩ := ro
    exact ⟨_, vs, rfl, ha, q, r, z⟩
theorem RV.dctRef {n : Nat} {kvs : List (Key × D)} (S : SR K gf H al be st) (r : RV K gf H al be (.ref n) v) (h : st[n]? = some (.dct kvs)) : ∃ a ws, v = .ref a ∧ al[n]? = some a ∧ H a = some (.dK ws) ∧ RPs K gf H al be kvs ws ∧ KsOk kvs := by
  cases r with
  | ref ha =>
    obtain ⟨o, h2, ro⟩ := S.at' ha
    rw [h] at h2; cases h2
    obtain ⟨vs, q, r⟩ := ro
    exact ⟨_, vs, rfl, ha, q, r⟩
def gAppend : D → List D → M D
  | .ref n, [x] => fun st => match st[n]? with
    | some (.lst l) => if l.length < sizeLine then some (.ok .non, st.set n (.lst (l ++ [x]))) else none
    | _ => none
  | _, _ => M.stuck
theorem ms_append : MtS X gf "list.append" gAppend := by
  intro pins s σ H x xs v us Q I rx rs q
  obtain ⟨al, be, st, d, ds, W, S, rd, rds, p⟩ := q
  unfold gAppend at p
  split at p
  · split at p
    · rename_i n y _ l hk
      split at p
      · rename_i hz
        obtain ⟨a, vs, rfl, ha, q1, r1, z1⟩ := rd.lstRef S hk
        obtain ⟨y', rfl, ry⟩ := rds.one
        have e := Ext.write (o := .lst (vs ++ [y'])) S ha
        refine mt_append pins s σ H _ _ v us Q I rx rs ⟨a, vs, y', rfl, rfl, q1, by rw [← r1.length]; exact hz, ?_⟩
        exact p _ _ (S.write (mo := .lst (l ++ [y])) ha ⟨_, upd_same, (r1.append (.cons ry .nil)).ext e, by rw [List.length_append, List.length_singleton]; omega⟩) e _ .non
      · exact p.elim
    · exact p.elim
  · exact p.elim
def gExtend : D → List D → M D
  | .ref n, [x] => fun st => match st[n]?, lstOf st x with
    | some (.lst l), some m => if l.length + m.length ≤ sizeLine then some (.ok .non, st.set n (.lst (l ++ m))) else none
    | _, _ => none
  | _, _ => M.stuck
theorem ms_extend : MtS X gf "list.extend" gExtend := by
  intro pins s σ H x xs v us Q I rx rs q
  obtain ⟨al, be, st, d, ds, W, S, rd, rds, p⟩ := q
  unfold gExtend at p
  split at p
  · split at p
    · rename_i n y _ _ l m hk hm
      split at p
      · rename_i hz
        obtain ⟨a, vs, rfl, ha, q1, r1, z1⟩ := rd.lstRef S hk
        obtain ⟨y', rfl, ry⟩ := rds.one
        obtain ⟨b, ws, rfl, q2, r2, z2⟩ := ry.lstOf S hm
        have e := Ext.write (o := .lst (vs ++ ws)) S ha
        refine mt_extend pins s σ H _ _ v us Q I rx rs ⟨a, b, vs, ws, rfl, rfl, q1, q2, by rw [← r1.length, ← r2.length]; exact hz, ?_⟩
        exact p _ _ (S.write (mo := .lst (l ++ m)) ha ⟨_, upd_same, (r1.append r2).ext e, by rw [List.length_append]; omega⟩) e _ .non
      · exact p.elim
    · exact p.elim
  · exact p.elim
/-- xs.pop(i), 0 ≤ i -/
def gPop : D → List D → M D
  | .ref n, [.int i] => fun st => match st[n]? with
    | some (.lst l) => if 0 ≤ i then (match l[i.toNat]? with
      | some x => some (.ok x, st.set n (.lst (l.eraseIdx i.toNat)))
      | none => none) else none
    | _ => none
  | .ref n, [] => fun st => match st[n]? with
    | some (.lst l) => (match l[l.length - 1]? with
      | some x => some (.ok x, st.set n (.lst l.dropLast))
      | none => none)
    | _ => none
  | _, _ => M.stuck
theorem RVs.dropLast {ds : List D} {vs : List V} (h : RVs K gf H al be ds vs) : RVs K gf H al be ds.dropLast vs.dropLast := by
  rw [List.dropLast_eq_take, List.dropLast_eq_take, h.length]
  exact h.take _
theorem ms_pop : MtS X gf "list.pop" gPop := by
  intro pins s σ H x xs v us Q I rx rs q
  obtain ⟨al, be, st, d, ds, W, S, rd, rds, p⟩ := q
  unfold gPop at p
  split at p
  · split at p
    · rename_i n i _ l hk
      split at p
      · rename_i h0
        split at p
        · rename_i y hy
          obtain ⟨a, vs, rfl, ha, q1, r1, z1⟩ := rd.lstRef S hk
          obtain ⟨y', rfl, ry⟩ := rds.one
          cases ry.int_inv
          obtain ⟨yv, hyv, ryv⟩ := r1.get hy
          have hlt := (List.getElem?_eq_some_iff.mp hy).1
          have hsz : sizeLine = 16777216 := sizeLine_eq
          have e := Ext.write (o := .lst (vs.eraseIdx i.toNat)) S ha
          refine mt_popAt pins s σ H _ _ v us Q I rx rs ⟨a, vs, i, i.toNat, yv, rfl, rfl, q1, by omega, by omega, ?_, hyv, ?_⟩
          · exact PySem.seqIndex_of h0 (by rw [← r1.length]; omega)
          · exact p _ _ (S.write (mo := .lst (l.eraseIdx i.toNat)) ha ⟨_, upd_same, (r1.eraseIdx _).ext e, Nat.le_trans (len_erase _ _) z1⟩) e _ (ryv.ext e)
        · exact p.elim
      · exact p.elim
    · exact p.elim
  · split at p
    · rename_i n _ l hk
      split at p
      · rename_i y hy
        obtain ⟨a, vs, rfl, ha, q1, r1, z1⟩ := rd.lstRef S hk
        cases rds
        obtain ⟨yv, hyv, ryv⟩ := r1.get hy
        have e := Ext.write (o := .lst vs.dropLast) S ha
        refine mt_pop pins s σ H _ _ v us Q I rx rs ⟨a, vs, yv, rfl, rfl, q1, by rw [← r1.length]; exact hyv, ?_⟩
        exact p _ _ (S.write (mo := .lst l.dropLast) ha ⟨_, upd_same, r1.dropLast.ext e, by rw [List.length_dropLast]; omega⟩) e _ (ryv.ext e)
      · exact p.elim
    · exact p.elim
  · exact p.elim

/-! ### what is walked -/
structure Src where
  items : List D
  grd : Option (Nat × MO)
def Src.ok (s : Src) (st : Sto) : Prop := match s.grd with
  | none => True
  | some (n, o) => st[n]? = some o
/-- an iterator over these items -/
def JS (K : PySem.W.Frag) (gf : Str → Option Addr) (be : List Addr) (H : Hp) (al : List Addr) (src : Src) (J : It) : Prop :=
  ∀ (i : Nat) be1 H1 al1 st1, Gr K be H al be1 H1 al1 → SR K gf H1 al1 be1 st1 → src.ok st1 →
    (∀ d, src.items[i]? = some d → J.go i H1 ∧ ∀ x H2, J.yld i H1 x H2 → SR K gf H2 al1 be1 st1 ∧ Ext K be1 H1 al1 H2 al1 ∧ RV K gf H2 al1 be1 d x) ∧ (src.items.length = i → J.stop i H1)
def rdI (K : PySem.W.Frag) (gf : Str → Option Addr) (W : WX) (m : Lo → M Src) : TI := fun σ H R => ∃ al be ρ st, SR K gf H al be st ∧ RS K gf H al be ρ σ ∧
  Post K gf be (wx gf W σ) H al (m ρ st) fun src _ H1 al1 => src.items.length ≤ sizeLine → ∀ J, JS K gf be H1 al1 src J → R J H1
def SI (X : Cx) (gf : Str → Option Addr) (W : WX) (tg iter : Expr) (m : Lo → M Src) : Prop := PI X tg iter (rdI X.K gf W m)
theorem imI {tg iter : Expr} {t t' : TI} (h : PI X tg iter t) (i : ∀ σ H Q, t' σ H Q → t σ H Q) : PI X tg iter t' := ⟨fun pins s σ H Q I q => h.run pins s σ H Q I (i σ H Q q)⟩
variable {tg : Expr} {ma : Lo → M D}
theorem js_fr {a : Addr} {vs : List V} (h : FrL H al be a vs) (r : RVs K gf H al be l vs) : JS K gf be H al ⟨l, none⟩ (Itl K a) := by
  intro i be1 H1 al1 st1 g S1 _
  have hq : SqL K H1 a vs := (g.frl _ _ h).sq
  refine ⟨fun d hd => ?_, fun hi => ⟨vs, hq, by rw [← r.length]; exact Nat.le_of_eq hi⟩⟩
  obtain ⟨v, hv, rv⟩ := r.get hd
  refine ⟨⟨vs, v, hq, hv⟩, fun x H2 y => ?_⟩
  obtain ⟨rfl, y⟩ := y
  have e := y vs hq
  rw [hv] at e
  cases e
  exact ⟨S1, Ext.refl, rv.gr g⟩
theorem js_ref {n : Nat} {a : Addr} (ha : al[n]? = some a) : JS K gf be H al ⟨l, some (n, .lst l)⟩ (Itl K a) := by
  intro i be1 H1 al1 st1 g S1 hk
  obtain ⟨de, q⟩ := g.pre
  have ha1 : al1[n]? = some a := by rw [q, List.getElem?_append_left (List.getElem?_eq_some_iff.mp ha).1]; exact ha
  obtain ⟨o, h2, ro⟩ := S1.at' ha1
  have hk' : st1[n]? = some (.lst l) := hk
  rw [hk'] at h2; cases h2
  obtain ⟨vs, hw, r, z⟩ := ro
  have hq : SqL K H1 a vs := .of hw
  refine ⟨fun d hd => ?_, fun hi => ⟨vs, hq, by rw [← r.length]; exact Nat.le_of_eq hi⟩⟩
  obtain ⟨v, hv, rv⟩ := r.get hd
  refine ⟨⟨vs, v, hq, hv⟩, fun x H2 y => ?_⟩
  obtain ⟨rfl, y⟩ := y
  have e := y vs hq
  rw [hv] at e
  cases e
  exact ⟨S1, Ext.refl, rv⟩
theorem js_tup {a : Addr} {vs : List V} (h : SqT K H a vs) (r : RVs K gf H al be l vs) : JS K gf be H al ⟨l, none⟩ (Itt K a) := by
  intro i be1 H1 al1 st1 g S1 _
  have hq : SqT K H1 a vs := g.tup _ _ h
  refine ⟨fun d hd => ?_, fun hi => ⟨vs, hq, by rw [← r.length]; exact Nat.le_of_eq hi⟩⟩
  obtain ⟨v, hv, rv⟩ := r.get hd
  refine ⟨⟨vs, v, hq, hv⟩, fun x H2 y => ?_⟩
  obtain ⟨rfl, y⟩ := y
  have e := y vs hq
  rw [hv] at e
  cases e
  exact ⟨S1, Ext.refl, rv.gr g⟩
/-- a text, sign by sign -/
def signs (z : Str) : List D := z.cps.toList.map fun c => .str ⟨#[c]⟩
theorem js_str {z : Str} (h : PyData.strOk z = true) : JS K gf be H al ⟨signs z, none⟩ (Its z) := by
  intro i be1 H1 al1 st1 g S1 _
  refine ⟨fun d hd => ?_, fun hi => ?_⟩
  · have hd : (signs z)[i]? = some d := hd
    unfold signs at hd
    rw [List.getElem?_map] at hd
    obtain ⟨c, h1, rfl⟩ := Option.map_eq_some_iff.mp hd
    have hlt : i < z.cps.size := by simpa using (List.getElem?_eq_some_iff.mp h1).1
    have h1' : z.cps[i]? = some c := by simpa using h1
    refine ⟨hlt, fun x H2 y => ?_⟩
    obtain ⟨rfl, c', h2, rfl⟩ := y
    rw [h1'] at h2
    cases h2
    exact ⟨S1, Ext.refl, .str (chr_ok h (List.mem_of_getElem? h1)) (by show 1 ≤ sizeLine; decide)⟩
  · have hi : (signs z).length ≤ i := Nat.le_of_eq hi
    unfold signs at hi
    simp at hi
    exact hi
def srcQ (st : Sto) : D → Option Src
  | .lst l => some ⟨l, none⟩
  | .ref n => (match st[n]? with
    | some (.lst l) => some ⟨l, some (n, .lst l)⟩
    | _ => none)
  | .tup l => some ⟨l, none⟩
  | .str z => some ⟨signs z, none⟩
  | _ => none
/-- a list, a tuple, a text -/
def iSeqR (K : PySem.W.Frag) (tl : TE) : TI := fun σ H R => tl σ H fun x H1 => (∃ a, x = .ref a ∧ (∃ xs, SqL K H1 a xs) ∧ R (Itl K a) H1) ∨ (∃ a, x = .ref a ∧ (∃ xs, SqT K H1 a xs) ∧ R (Itt K a) H1) ∨ ∃ z, x = .str z ∧ R (Its z) H1
theorem pi_seq {l : Expr} {tl : TE} (hl : PE X l tl) : PI X tg l (iSeqR X.K tl) := by
  refine ⟨fun pins s σ H R I h => ?_⟩
  refine thn (hl.run pins s σ H _ I h) fun v s1 ⟨x, H1, I1, r1, q1⟩ => ?_
  rcases q1 with ⟨a, e, ⟨xs, hq⟩, q⟩ | ⟨a, e, ⟨xs, hq⟩, q⟩ | ⟨z, ex, q⟩
  · subst e
    cases r1
    obtain ⟨its, rv, p, hz⟩ := I1.list hq
    refine wpAny_pyIter_list p.isList ?_
    refine ⟨s1.heap.objs.size, [s1.heap.objs.size], _, _, H1, rfl, I1.kept (t' := s1.toks) fun b o e => Heap.get?_push_of_some _ e, turn_list a _, ⟨_, Heap.get?_push_size _ rfl, rfl, rfl⟩, fun b hb => ?_, q⟩
    have e : b = s1.heap.objs.size := by simpa using hb
    subst e
    exact I1.fpOk (Nat.le_refl _) (I1.hok.fresh (Nat.le_refl _))
  · subst e
    cases r1
    obtain ⟨its, rv, p, hz⟩ := I1.tuple hq
    refine wpAny_pyIter_tuple (show s1.heap.IsTuple a its.toArray from p) ?_
    refine ⟨s1.heap.objs.size, [s1.heap.objs.size], _, _, H1, rfl, I1.kept (t' := s1.toks) fun b o e => Heap.get?_push_of_some _ e, turn_tuple a _, ⟨_, Heap.get?_push_size _ rfl, rfl, rfl⟩, fun b hb => ?_, q⟩
    have e : b = s1.heap.objs.size := by simpa using hb
    subst e
    exact I1.fpOk (Nat.le_refl _) (I1.hok.fresh (Nat.le_refl _))
  · subst ex
    obtain ⟨t, rfl⟩ := r1
    cases ha : z.cps.all (· < 128)
    · exact wpAny_pyIter_wide ha (pi_one (tk := s1.toks) I1 _ (turn_str _ z t "str_iterator" (.inr rfl)) ⟨_, Heap.get?_push_size _ rfl, rfl, rfl⟩ q)
    · exact wpAny_pyIter_ascii ha (pi_one (tk := s1.toks) I1 _ (turn_str _ z t "str_ascii_iterator" (.inl rfl)) ⟨_, Heap.get?_push_size _ rfl, rfl, rfl⟩ q)
def iSeq (ma : Lo → M D) : Lo → M Src := fun ρ => M.bind (ma ρ) fun d => M.look fun st => srcQ st d
theorem si_seq (ha : SE X gf W a ma) : SI X gf W tg a (iSeq ma) := by
  refine imI (pi_seq ha) fun σ H R h => ?_
  obtain ⟨al, be, ρ, st, S, L, p⟩ := h
  refine ⟨al, be, ρ, st, S, L, p.bind.mono fun d st1 H1 al1 S1 e1 p1 v rv => ?_⟩
  obtain ⟨src, e, q⟩ := p1.look S1
  unfold srcQ at e
  split at e
  · cases e
    cases rv with
    | lst h1 h2 z => exact .inl ⟨_, rfl, ⟨_, h1.sq⟩, q z _ (js_fr h1 h2)⟩
  · split at e
    · rename_i n l hk
      cases e
      obtain ⟨a, vs, rfl, ha, q1, r1, z1⟩ := rv.lstRef S1 hk
      exact .inl ⟨_, rfl, ⟨_, .of q1⟩, q z1 _ (js_ref ha)⟩
    · cases e
  · cases e
    obtain ⟨a, vs, rfl, q1, r1, z1⟩ := rv.tup_inv
    exact .inr (.inl ⟨_, rfl, ⟨_, q1⟩, q z1 _ (js_tup q1 r1)⟩)
  · cases e
    obtain ⟨rfl, h1, h2⟩ := rv.str_inv
    refine .inr (.inr ⟨_, rfl, q ?_ _ (js_str h1)⟩)
    show (signs _).length ≤ _
    unfold signs
    simp only [List.length_map, Array.length_toList]
    exact h2
  · cases e
/-- range(n), range(a, b) -/
def rngL (lo : Int) (n : Nat) : List D := (List.range n).map fun i => .int (lo + (i : Nat))
theorem rngL_get {lo : Int} {n i : Nat} {d : D} (h : (rngL lo n)[i]? = some d) : i < n ∧ d = .int (lo + (i : Nat)) := by
  unfold rngL at h
  rw [List.getElem?_map] at h
  obtain ⟨j, h1, rfl⟩ := Option.map_eq_some_iff.mp h
  obtain ⟨h2, h3⟩ := List.getElem?_eq_some_iff.mp h1
  simp at h2 h3
  subst h3
  exact ⟨h2, rfl⟩
theorem rngL_len {lo : Int} {n : Nat} : (rngL lo n).length = n := by simp [rngL]
theorem js_rng {lo : Int} {n : Nat} : JS K gf be H al ⟨rngL lo n, none⟩ (Itr lo n) := by
  intro i be1 H1 al1 st1 g S1 _
  refine ⟨fun d hd => ?_, fun hi => ?_⟩
  · obtain ⟨h1, rfl⟩ := rngL_get hd
    refine ⟨h1, fun x H2 y => ?_⟩
    obtain ⟨rfl, rfl⟩ := y
    exact ⟨S1, Ext.refl, .int _⟩
  · rw [show (⟨rngL lo n, none⟩ : Src).items.length = n from rngL_len] at hi
    exact Nat.le_of_eq hi
def srcR1 : D → Option Src
  | .int j => if 0 ≤ j ∧ j ≤ 16777216 then some ⟨rngL 0 j.toNat, none⟩ else none
  | _ => none
def iRng1 (ma : Lo → M D) : Lo → M Src := fun ρ => M.bind (ma ρ) fun d => M.look fun _ => srcR1 d
theorem big62 {j : Int} (h0 : 0 ≤ j) (h1 : j ≤ 16777216) : -(2 ^ 62) ≤ j ∧ j < 2 ^ 62 := ⟨by omega, by omega⟩
theorem si_rng1 {p pos : Pos} (hg : Gl X "range") (hm : X.mg "range" = none) (ha : SE X gf W a ma) (hs : starEach [a] X.env = [(false, eval a X.env)]) : SI X gf W tg (.Call (.Name "range" p) [a] [] pos) (TB.iRng1 ma) := by
  refine imI (pi_range1 hg hm (pa_cons ha pa_nil hs) hs) fun σ H R h => ?_
  obtain ⟨al, be, ρ, st, S, L, p⟩ := h
  refine ⟨al, be, ρ, st, S, L, p.bind.mono fun d st1 H1 al1 S1 e1 p1 v rv => ?_⟩
  obtain ⟨src, e, q⟩ := p1.look S1
  unfold srcR1 at e
  split at e
  · split at e
    · rename_i j c
      cases e
      cases rv.int_inv
      obtain ⟨b1, b2⟩ := big62 c.1 c.2
      refine ⟨j, rfl, b1, b2, q ?_ _ js_rng⟩
      show (rngL _ _).length ≤ _
      rw [rngL_len, sizeLine_eq]
      omega
    · cases e
  · cases e
/-- zip of two tuples -/
def zipD (l m : List D) : List D := (l.zip m).map fun p => .tup [p.1, p.2]
theorem js_zipT {a b : Addr} {l m : List D} {vs us : List V} (h : SqT K H a vs) (r : RVs K gf H al be l vs) (h2 : SqT K H b us) (r2 : RVs K gf H al be m us) : JS K gf be H al ⟨zipD l m, none⟩ (RZ.ItzT K a b) := by
  intro i be1 H1 al1 st1 g S1 _
  have hq : SqT K H1 a vs := g.tup _ _ h
  have hq2 : SqT K H1 b us := g.tup _ _ h2
  refine ⟨fun d hd => ?_, fun hi => ⟨vs, us, hq, hq2, ?_⟩⟩
  · have hd : ((l.zip m).map fun p => D.tup [p.1, p.2])[i]? = some d := hd
    rw [List.getElem?_map] at hd
    obtain ⟨⟨x, y⟩, hz, rfl⟩ := Option.map_eq_some_iff.mp hd
    obtain ⟨hx, hy⟩ := List.getElem?_zip_eq_some.mp hz
    obtain ⟨v, hv, rv⟩ := r.get hx
    obtain ⟨u, hu, ru⟩ := r2.get hy
    refine ⟨⟨vs, us, v, u, hq, hq2, hv, hu⟩, fun w H2 yl => ?_⟩
    obtain ⟨T, x', y', rfl, hT, rfl, f1, f2⟩ := yl
    have e1 := f1 vs hq
    rw [hv] at e1
    cases e1
    have e2 := f2 us hq2
    rw [hu] at e2
    cases e2
    have e := Ext.new (o := .tup [v, u]) hT S1
    exact ⟨S1.new (o := .tup [v, u]) hT, e, .tup (.inl (.inl upd_same)) (.cons ((rv.gr g).gr e.toGr) (.cons ((ru.gr g).gr e.toGr) .nil)) (by show 2 ≤ sizeLine; decide)⟩
  · have hi : (zipD l m).length ≤ i := Nat.le_of_eq hi
    unfold zipD at hi
    rw [List.length_map, List.length_zip] at hi
    have l1 := r.length
    have l2 := r2.length
    omega
def srcZ : List D → Option Src
  | [.tup l, .tup m] => some ⟨zipD l m, none⟩
  | _ => none
def iZip (mr : Lo → M (List D)) : Lo → M Src := fun ρ => M.bind (mr ρ) fun ds => M.look fun _ => srcZ ds
theorem si_zip {e e2 : Expr} {mr : Lo → M (List D)} {p pos tpos : Pos} {elts : List Expr} {kk : Nat} (hg : Gl X "zip") (hm : X.mg "zip" = none) (ha : SA X gf W [e, e2] mr)
    (hs : starEach [e, e2] X.env = (false, eval e X.env) :: starEach [e2] X.env) (hpl : (backTo pos (starEach [e2] X.env)).any (·.1) = false) : SI X gf W (.Tuple elts kk tpos) (.Call (.Name "zip" p) [e, e2] [] pos) (iZip mr) := by
  refine imI (RZ.pi_zipA hg hm ha hs hpl) fun σ H R h => ?_
  obtain ⟨al, be, ρ, st, S, L, p⟩ := h
  refine ⟨al, be, ρ, st, S, L, p.bind.mono fun ds st1 H1 al1 S1 e1 p1 vs rvs => ?_⟩
  obtain ⟨src, e, q⟩ := p1.look S1
  unfold srcZ at e
  split at e
  · cases e
    cases rvs with
    | cons r1 rr =>
      cases rr with
      | cons r2 rr =>
        cases rr
        obtain ⟨a, vs, rfl, q1, r1', z1⟩ := r1.tup_inv
        obtain ⟨b, us, rfl, q2, r2', z2⟩ := r2.tup_inv
        refine ⟨a, b, vs, us, rfl, .inr ⟨q1, q2, q ?_ _ (js_zipT q1 r1' q2 r2')⟩⟩
        show (zipD _ _).length ≤ _
        unfold zipD
        rw [List.length_map, List.length_zip]
        omega
  · cases e
end
end TB
set_option Elab.async false
set_option linter.all false
set_option maxRecDepth 100000
set_option maxHeartbeats 4000000
/-! TB5: targets, comprehensions, statements, loops -/
namespace TB
open PySem PySem.Spec L2

/-! ### targets -/
inductive Tg where
  | one (i : Nat) | tup (is : List Nat) | nest (i : Nat) (js : List Nat)
def Tg.slots : Tg → List Nat
  | .one i => [i]
  | .tup is => is
  | .nest i js => i :: js
def setV (σ : St) : List Nat → List V → St
  | i :: is, v :: vs => setV (σ.set i (some v)) is vs
  | _, _ => σ
def setD (ρ : Lo) : List Nat → List D → Lo
  | i :: is, v :: vs => setD (ρ.set i (some v)) is vs
  | _, _ => ρ
def gT (K : PySem.W.Frag) : Tg → TG
  | .one i => gName i
  | .tup is => fun v σ H Q => ∃ a xs, v = .ref a ∧ (SqT K H a xs ∨ SqL K H a xs) ∧ xs.length = is.length ∧ Q (setV σ is xs) H
  | .nest i js => fun v σ H Q => ∃ a x a2 xs, v = .ref a ∧ SqT K H a [x, .ref a2] ∧ SqT K H a2 xs ∧ xs.length = js.length ∧ Q (setV (σ.set i (some x)) js xs) H
def bindT : Tg → D → Lo → Option Lo
  | .one i, d, ρ => some (ρ.set i (some d))
  | .tup is, .tup ds, ρ => if ds.length = is.length then some (setD ρ is ds) else none
  | .tup is, .lst ds, ρ => if ds.length = is.length then some (setD ρ is ds) else none
  | .tup _, _, _ => none
  | .nest i js, .tup [x, .tup ds], ρ => if ds.length = js.length then some (setD (ρ.set i (some x)) js ds) else none
  | .nest _ _, _, _ => none
section
variable {X : Cx} {gf : Str → Option Addr} {K : PySem.W.Frag} {H : Hp} {al be : List Addr} {st : Sto} {d e : D} {v u : V} {l : List D} {W : WX}
theorem RS.setAll : ∀ {is : List Nat} {ds : List D} {vs : List V} {ρ : Lo} {σ : St}, RS K gf H al be ρ σ → RVs K gf H al be ds vs → RS K gf H al be (setD ρ is ds) (setV σ is vs)
  | [], _, _, _, _, L, _ => by simpa [setD, setV] using L
  | i :: is, _, _, _, _, L, .nil => by simpa [setD, setV] using L
  | i :: is, _, _, _, _, L, .cons h hs => by
    unfold setD setV
    exact RS.setAll (L.set h) hs
theorem bindN_of {i : Nat} {js : List Nat} {d : D} {ρ ρ1 : Lo} (h : bindT (.nest i js) d ρ = some ρ1) : ∃ x ds, d = .tup [x, .tup ds] ∧ ds.length = js.length ∧ ρ1 = setD (ρ.set i (some x)) js ds := by
  unfold bindT at h
  split at h
  all_goals first
    | (rename_i h0 _; cases h0; done)
    | (rename_i h0; cases h0; done)
    | (cases h; done)
    | skip
  rename_i heq
  cases heq
  split at h
  · rename_i hl
    cases h
    exact ⟨_, _, rfl, hl, rfl⟩
  · cases h
/-- a value is bound -/
theorem bind_ok {t : Tg} {ρ ρ1 : Lo} {σ : St} {Q : St → Hp → Prop} (L : RS K gf H al be ρ σ) (r : RV K gf H al be d v) (h : bindT t d ρ = some ρ1)
    (q : ∀ σ1, RS K gf H al be ρ1 σ1 → (∀ own : List Nat, (∀ i ∈ t.slots, i ∈ own) → wipe σ1 own = wipe σ own) → Q σ1 H) : gT K t v σ H Q := by
  have wset : ∀ (σ : St) (i : Nat) (x : V) (own : List Nat), i ∈ own → wipe (σ.set i (some x)) own = wipe σ own := by
    intro σ i x own
    induction own with
    | nil => intro h; simp at h
    | cons j own ih =>
      intro h
      unfold wipe
      by_cases hj : i ∈ own
      · rw [ih hj]
      · have e : i = j := by
          rcases List.mem_cons.mp h with h | h
          · exact h
          · exact absurd h hj
        subst e
        have comm : ∀ (own : List Nat), i ∉ own → (wipe (σ.set i (some x)) own).set i none = (wipe σ own).set i none := by
          intro own
          induction own with
          | nil => intro _; simp [wipe]
          | cons k own ih2 =>
            intro hn
            simp only [List.mem_cons, not_or] at hn
            unfold wipe
            rw [List.set_comm _ _ (Ne.symm hn.1), ih2 hn.2, List.set_comm _ _ hn.1]
        exact comm own hj
  have all : ∀ (own : List Nat) (is : List Nat) (vs : List V) (σ : St), (∀ i ∈ is, i ∈ own) → wipe (setV σ is vs) own = wipe σ own := by
    intro own is
    induction is with
    | nil => intro vs σ _; simp [setV]
    | cons i is ih =>
      intro vs σ hs
      cases vs with
      | nil => simp [setV]
      | cons v vs =>
        unfold setV
        rw [ih vs _ fun j hj => hs j (List.mem_cons_of_mem _ hj), wset σ i v own (hs i List.mem_cons_self)]
  cases t with
  | one i =>
    simp only [bindT, Option.some.injEq] at h
    subst h
    exact q _ (L.set r) fun own ho => wset σ i v own (ho i List.mem_cons_self)
  | tup is =>
    cases d <;> simp only [bindT] at h <;> try (cases h; done)
    · split at h
      · rename_i ds hl
        cases h
        obtain ⟨a, vs, rfl, q1, r1, z1⟩ := r.tup_inv
        exact ⟨a, vs, rfl, .inl q1, by rw [← r1.length]; exact hl, q _ (L.setAll r1) fun own ho => all own is vs σ ho⟩
      · cases h
    · split at h
      · rename_i ds hl
        cases h
        obtain ⟨q1, r1, z1⟩ : ∃ a vs, v = .ref a ∧ FrL H al be a vs ∧ RVs K gf H al be ds vs := by
          cases r with
          | lst h hs z => exact ⟨_, _, rfl, h, hs⟩
        obtain ⟨rfl, q2, r2⟩ := z1
        exact ⟨q1, r1, rfl, .inr q2.sq, by rw [← r2.length]; exact hl, q _ (L.setAll r2) fun own ho => all own is r1 σ ho⟩
      · cases h
  | nest i js =>
    obtain ⟨x, ds, rfl, hl, rfl⟩ := bindN_of h
    obtain ⟨a, vs, rfl, q1, r1, z1⟩ := r.tup_inv
    cases r1 with
    | cons rx t1 =>
      cases t1 with
      | cons ry t2 =>
        cases t2
        rename_i vx vy
        obtain ⟨a2, vs2, rfl, q2, r2, z2⟩ := ry.tup_inv
        refine ⟨a, vx, a2, vs2, rfl, q1, q2, by rw [← r2.length]; exact hl, q _ ((L.set rx).setAll r2) fun own ho => ?_⟩
        rw [all own js vs2 _ fun j hj => ho j (List.mem_cons_of_mem _ hj), wset σ i vx own (ho i List.mem_cons_self)]
def SG (X : Cx) (tg : Expr) (t : Tg) : Prop := PG X tg (gT X.K t)
theorem sg_one {i : Nat} {x : Str} {pos : Pos} (hN : X.N.Nodup) (hi : X.N[i]? = some x) (hx : Loc X.env.scope x) (hf : X.fn x = true ∨ X.env.scope.names.lookup x = some .local) : SG X (.Name x pos) (.one i) := pg_name hN hi hx hf
/-- names, one after another -/
def gNs : List Nat → TGs
  | is => fun vs σ H Q => vs.length = is.length ∧ Q (setV σ is vs) H
theorem imGs {es : List Expr} {t t' : TGs} (h : PGs X es t) (i : ∀ v σ H Q, t' v σ H Q → t v σ H Q) : PGs X es t' := ⟨fun pins s σ H vs us Q I r q => h.run pins s σ H vs us Q I r (i _ σ H Q q)⟩
theorem imG {e : Expr} {t t' : TG} (h : PG X e t) (i : ∀ v σ H Q, t' v σ H Q → t v σ H Q) : PG X e t' := ⟨fun pins s σ H vs us Q I r q => h.run pins s σ H vs us Q I r (i _ σ H Q q)⟩
inductive NamesAt (X : Cx) : List Expr → List Nat → Prop
  | nil : NamesAt X [] []
  | cons {x : Str} {i : Nat} {pos : Pos} {es : List Expr} {is : List Nat} : X.N[i]? = some x → Loc X.env.scope x → (X.fn x = true ∨ X.env.scope.names.lookup x = some .local) → NamesAt X es is → NamesAt X (.Name x pos :: es) (i :: is)
theorem sgs_names (hN : X.N.Nodup) : ∀ {es : List Expr} {is : List Nat}, NamesAt X es is → PGs X es (gNs is) ∧ (assignEach es X.env).length = is.length ∧ (assignEach es X.env).findIdx? (·.1) = none
  | _, _, .nil => ⟨imGs pgs_nil fun vs σ H Q ⟨h, q⟩ => ⟨List.length_eq_zero_iff.mp h, by simpa [setV] using q⟩, rfl, rfl⟩
  | _, _, .cons (x := x) (i := i) (pos := pos) (es := es) (is := is) hi hx hf r => by
    obtain ⟨h1, h2, h3⟩ := sgs_names hN r
    have e : assignEach (.Name x pos :: es) X.env = (false, assign (.Name x pos) X.env) :: assignEach es X.env := by simp only [assignEach]
    refine ⟨imGs (pgs_cons (pg_name hN hi hx hf) h1 (by rw [e]; rfl)) fun vs σ H Q ⟨h, q⟩ => ?_, ?_, ?_⟩
    · cases vs with
      | nil => simp at h
      | cons v vs =>
        refine ⟨v, vs, rfl, ?_, ?_⟩
        · simpa using h
        · simpa only [setV] using q
    · rw [e, List.length_cons, h2]; rfl
    · rw [e, List.findIdx?_cons, h3]; rfl
theorem sg_tup {es : List Expr} {is : List Nat} {k : Nat} {pos : Pos} (hN : X.N.Nodup) (hc : X.calm = true) (h : NamesAt X es is) : SG X (.Tuple es k pos) (.tup is) := by
  obtain ⟨h1, h2, h3⟩ := sgs_names hN h
  refine ⟨fun pins s σ H v u Q I r ⟨a, xs, e, hs, hl, q⟩ => ?_⟩
  rcases hs with hs | hs
  · exact (pg_tup hc h1 h2 h3).run pins s σ H v u Q I r ⟨a, xs, e, hs, hl, hl, q⟩
  · exact (pg_lst hc h1 h2 h3).run pins s σ H v u Q I r ⟨a, xs, e, hs, hl, hl, q⟩

theorem sg_nest {x : Str} {i : Nat} {p p2 pos : Pos} {es : List Expr} {js : List Nat} {k k2 : Nat} (hN : X.N.Nodup) (hc : X.calm = true) (hi : X.N[i]? = some x) (hx : Loc X.env.scope x) (hf : X.fn x = true ∨ X.env.scope.names.lookup x = some .local) (h : NamesAt X es js) : SG X (.Tuple [.Name x p, .Tuple es k2 p2] k pos) (.nest i js) := by
  obtain ⟨h1, h2, h3⟩ := sgs_names hN h
  have g2 : PG X (.Tuple es k2 p2) (gTup X.K js.length (gNs js)) := pg_tup hc h1 h2 h3
  have gs : PGs X [.Name x p, .Tuple es k2 p2] (gCons (gName i) (gCons (gTup X.K js.length (gNs js)) gNil)) := pgs_cons (pg_name hN hi hx hf) (pgs_cons g2 pgs_nil)
  refine imG (pg_tup (n := 2) hc gs) fun v σ H Q h => ?_
  obtain ⟨a, y, a2, xs, rfl, q1, q2, hl, q⟩ := h
  exact ⟨a, _, rfl, q1, rfl, y, _, rfl, .ref a2, [], rfl, a2, xs, rfl, q2, hl, hl, rfl, q⟩

/-! ### comprehensions -/
def wipeD (ρ : Lo) : List Nat → Lo
  | [] => ρ
  | v :: vs => (wipeD ρ vs).set v none
theorem RS.setNone {ρ : Lo} {σ : St} (L : RS K gf H al be ρ σ) (i : Nat) : RS K gf H al be (ρ.set i none) (σ.set i none) := by
  refine ⟨by simp [L.len], fun j e h => ?_⟩
  by_cases hj : i = j
  · subst hj
    by_cases hl : i < ρ.length
    · rw [List.getElem?_set_self hl] at h
      cases h
    · rw [List.getElem?_eq_none (by simpa using hl)] at h
      cases h
  · rw [List.getElem?_set_ne hj] at h
    rw [List.getElem?_set_ne hj]
    exact L.val j e h
theorem RS.wipe {ρ : Lo} {σ : St} (L : RS K gf H al be ρ σ) : ∀ own : List Nat, RS K gf H al be (wipeD ρ own) (L2.wipe σ own)
  | [] => L
  | i :: own => by
    unfold wipeD L2.wipe
    exact (RS.wipe L own).setNone i
theorem RS.gr {H1 : Hp} {al1 be1 : List Addr} {ρ : Lo} {σ : St} (L : RS K gf H al be ρ σ) (e : Gr K be H al be1 H1 al1) : RS K gf H1 al1 be1 ρ σ :=
  ⟨L.len, fun i d h => let ⟨v, h1, h2⟩ := L.val i d h; ⟨v, h1, h2.gr e⟩⟩
open Classical in
noncomputable def lcG (src : Src) (t : Tg) (own : List Nat) (tc : Lo → M Bool) (me : Lo → M D) (ρ : Lo) : List D → M (List D)
  | [] => fun st => if src.ok st then some (.ok [], st) else none
  | d :: ds => fun st => if src.ok st then (match bindT t d (wipeD ρ own) with
    | none => none
    | some ρ1 => M.bind (M.quiet (tc ρ1)) (fun b => if b then M.bind (M.quiet (me ρ1)) (fun y => M.bind (lcG src t own tc me ρ ds) fun r => M.pure (y :: r)) else lcG src t own tc me ρ ds) st) else none
theorem lcG_quiet {src : Src} {t : Tg} {own : List Nat} {tc : Lo → M Bool} {me : Lo → M D} {ρ : Lo} : ∀ {ds : List D} {st st1 : Sto} {c : Str}, lcG src t own tc me ρ ds st ≠ some (.exn c, st1)
  | [], st, st1, c => by
    unfold lcG
    split <;> simp
  | d :: ds, st, st1, c => by
    intro h
    unfold lcG at h
    split at h
    · split at h
      · cases h
      · rcases M.bind_exn h with h | ⟨b, st2, _, h⟩
        · exact M.quiet_exn h
        · cases b with
          | true =>
            rw [if_pos rfl] at h
            rcases M.bind_exn h with h | ⟨y, st3, _, h⟩
            · exact M.quiet_exn h
            · rcases M.bind_exn h with h | ⟨r, st4, _, h⟩
              · exact lcG_quiet h
              · cases h
          | false =>
            rw [if_neg Bool.false_ne_true] at h
            exact lcG_quiet h
    · cases h
/-- one turn -/
theorem lcG_cons {src : Src} {t : Tg} {own : List Nat} {tc : Lo → M Bool} {me : Lo → M D} {ρ : Lo} {d : D} {ds : List D} {st stf : Sto} {r : List D} (h : lcG src t own tc me ρ (d :: ds) st = some (.ok r, stf)) :
    src.ok st ∧ ∃ ρ1 b st1, bindT t d (wipeD ρ own) = some ρ1 ∧ tc ρ1 st = some (.ok b, st1) ∧
      (b = true → ∃ y st2 r', me ρ1 st1 = some (.ok y, st2) ∧ lcG src t own tc me ρ ds st2 = some (.ok r', stf) ∧ r = y :: r') ∧ (b = false → lcG src t own tc me ρ ds st1 = some (.ok r, stf)) := by
  unfold lcG at h
  split at h
  · rename_i hok
    split at h
    · cases h
    · rename_i ρ1 hb
      obtain ⟨b, st1, h1, h⟩ := M.bind_ok h
      refine ⟨hok, ρ1, b, st1, hb, M.quiet_ok h1, fun hbt => ?_, fun hbf => ?_⟩
      · subst hbt
        rw [if_pos rfl] at h
        obtain ⟨y, st2, h3, h⟩ := M.bind_ok h
        obtain ⟨r', st3, h5, h⟩ := M.bind_ok h
        cases h
        exact ⟨y, st2, r', M.quiet_ok h3, h5, rfl⟩
      · subst hbf
        rw [if_neg Bool.false_ne_true] at h
        exact h
  · cases h
noncomputable def mLc (m : Bool) (t : Tg) (own : List Nat) (it : Lo → M Src) (tc : Lo → M Bool) (me : Lo → M D) : Lo → M D := fun ρ => M.bind (it ρ) fun src => M.bind (lcG src t own tc me ρ src.items) (mkL m)
abbrev W0 : WX := fun _ _ _ _ => False
/-- the reading of a comprehension -/
theorem lc_of {m : Bool} {t : Tg} {own : List Nat} {it : Lo → M Src} {tc : Lo → M Bool} {me : Lo → M D} (ht : ∀ i ∈ t.slots, i ∈ own) {σ : St} {H : Hp} {Q : VK} (h : rdE K gf W (mLc m t own it tc me) σ H Q) :
    tLc (rdI K gf W it) (gT K t) (rdT K gf W0 tc) (rdE K gf W0 me) own σ H Q := by
  obtain ⟨al, be, ρ, st, S, L, p⟩ := h
  refine ⟨al, be, ρ, st, S, L, p.bind.mono fun src st1 H1 al1 S1 e1 p1 hsz J hJ D hD => ?_⟩
  -- the whole run
  match hr : lcG src t own tc me ρ src.items st1 with
  | none => unfold M.bind at p1; rw [hr] at p1; exact p1.elim
  | some (.exn c, st2) => exact (lcG_quiet hr).elim
  | some (.ok full, stf) =>
    rw [M.bind_of hr] at p1
    have DnB : D ∉ be := fun hb => by
      obtain ⟨vs, q⟩ := S1.res D hb
      rw [hD] at q; cases q
    have L1 := L.ext e1
    refine ⟨fun i mm Hc => ∃ alc stc acc vs rest, i ≤ src.items.length ∧ mm = src.items.length - i ∧ SR K gf Hc alc (D :: be) stc ∧ Hc D = some (.lst vs) ∧ RVs K gf Hc alc (D :: be) acc vs ∧ acc.length ≤ i ∧
      Gr K be H1 al1 (D :: be) Hc alc ∧ (∀ b ∈ be, Hc b = H1 b) ∧ lcG src t own tc me ρ (src.items.drop i) stc = some (.ok rest, stf) ∧ acc ++ rest = full, ⟨src.items.length, al1, st1, [], [], full, Nat.zero_le _, by simp, ?_, upd_same, .nil, Nat.zero_le _, ?_, ?_, by simpa using hr, by simp⟩, ?_⟩
    · -- the store with the new list
      have e := Ext.new (o := .lst []) hD S1
      have S2 := S1.new (o := .lst []) hD
      have npal : D ∉ al1 := fun q => by
        obtain ⟨ob, ro⟩ := S1.mem q
        have := ro.mut
        rw [hD] at this
        exact this
      have g : Gr K be H1 al1 (D :: be) (upd H1 D (.lst [])) al1 := ⟨⟨[], by simp⟩, e.tup, fun a xs hf => ?_, e.scr⟩
      · refine ⟨S2.len, S2.nd, fun b hb => ?_, fun b hb => ?_, fun j o a h1 h2 => ?_⟩
        · rcases List.mem_cons.mp hb with rfl | hb
          · exact npal
          · exact S2.dis b hb
        · rcases List.mem_cons.mp hb with rfl | hb
          · exact ⟨[], upd_same⟩
          · exact S2.res b hb
        · have ro := S1.obj j o a h1 h2
          have hne : a ≠ D := fun z => by
            have := ro.mut
            rw [z, hD] at this
            exact this
          exact ro.gr g (upd_ne hne) fun dx q => by rw [upd_ne (ne_of_none q hD)]; exact q
      · obtain ⟨h1, h2, h3⟩ := hf
        refine ⟨by rw [upd_ne (ne_of_none h1 hD)]; exact h1, h2, ?_⟩
        simp only [List.mem_cons, not_or]
        exact ⟨ne_of_none h1 hD, h3⟩
    · have e := Ext.new (o := .lst []) hD S1
      refine ⟨⟨[], by simp⟩, e.tup, fun a xs hf => ?_, e.scr⟩
      obtain ⟨h1, h2, h3⟩ := hf
      refine ⟨by rw [upd_ne (ne_of_none h1 hD)]; exact h1, h2, ?_⟩
      simp only [List.mem_cons, not_or]
      exact ⟨ne_of_none h1 hD, h3⟩
    · intro b hb
      obtain ⟨vs, q⟩ := S1.res b hb
      exact upd_ne (ne_of_none q hD)
    · -- turns
      rintro i mm Hc ⟨alc, stc, acc, vs, rest, hi, rfl, Sc, hDc, racc, hal, gc, resc, run, efull⟩
      by_cases hlt : i < src.items.length
      · -- a turn
        right
        have hd : src.items[i]? = some src.items[i] := List.getElem?_eq_getElem hlt
        rw [List.drop_eq_getElem_cons hlt] at run
        obtain ⟨hok, ρ1, b, st2, hb, h1, hT, hF⟩ := lcG_cons run
        obtain ⟨hitem, _⟩ := hJ i (D :: be) Hc alc stc gc Sc hok
        obtain ⟨hgo, hy⟩ := hitem _ hd
        refine ⟨hgo, fun H' => ∃ alc stc acc vs rest, SR K gf H' alc (D :: be) stc ∧ H' D = some (.lst vs) ∧ RVs K gf H' alc (D :: be) acc vs ∧ acc.length ≤ i + 1 ∧
          Gr K be H1 al1 (D :: be) H' alc ∧ (∀ b ∈ be, H' b = H1 b) ∧ lcG src t own tc me ρ (src.items.drop (i + 1)) stc = some (.ok rest, stf) ∧ acc ++ rest = full, ?_, ?_⟩
        · rintro H' ⟨alc, stc, acc, vs, rest, q⟩
          exact ⟨src.items.length - (i + 1), by omega, alc, stc, acc, vs, rest, hlt, rfl, q⟩
        · intro x H2 hx
          obtain ⟨S2, e2, r2⟩ := hy x H2 hx
          have Lc : RS K gf H2 alc (D :: be) ρ σ := (L1.gr gc).gr e2.toGr
          refine bind_ok (Lc.wipe own) r2 hb fun σ1 L3 hw => ⟨?_, ?_⟩
          · have hw2 := hw own ht
            rw [hw2]
            -- wipe of wipe
            have ww : ∀ (own : List Nat) (σ : St), L2.wipe (L2.wipe σ own) own = L2.wipe σ own := by
              intro own σ
              apply List.ext_getElem?
              intro j
              by_cases hj : j ∈ own
              · have z1 : ∀ (τ : St), ¬ ∃ v, (L2.wipe τ own)[j]? = some (some v) := fun τ ⟨v, h⟩ => (wipe_some h).2 hj
                have ln : ∀ (τ : St), (L2.wipe τ own).length = τ.length := fun τ => wipe_length τ own
                by_cases hl : j < σ.length
                · have a1 : j < (L2.wipe (L2.wipe σ own) own).length := by rw [ln, ln]; exact hl
                  have a2 : j < (L2.wipe σ own).length := by rw [ln]; exact hl
                  rw [List.getElem?_eq_getElem a1, List.getElem?_eq_getElem a2]
                  cases c1 : (L2.wipe (L2.wipe σ own) own)[j] with
                  | some v => exact (z1 _ ⟨v, by rw [List.getElem?_eq_getElem a1, c1]⟩).elim
                  | none =>
                    cases c2 : (L2.wipe σ own)[j] with
                    | some v => exact (z1 _ ⟨v, by rw [List.getElem?_eq_getElem a2, c2]⟩).elim
                    | none => rfl
                · rw [List.getElem?_eq_none (by rw [ln, ln]; omega), List.getElem?_eq_none (by rw [ln]; omega)]
              · rw [wipe_out hj, wipe_out hj]
            exact ww own σ
          · -- the test
            refine ⟨alc, D :: be, ρ1, stc, S2, L3, ?_⟩
            rw [h1]
            intro H3 al3 S3 e3
            have g3 : Gr K be H1 al1 (D :: be) H3 al3 := (gc.trans e2.toGr).trans e3.toGr
            have hD3 : H3 D = some (.lst vs) := by rw [e3.res D List.mem_cons_self, e2.res D List.mem_cons_self]; exact hDc
            have res3 : ∀ b ∈ be, H3 b = H1 b := fun b hb => by rw [e3.res b (List.mem_cons_of_mem _ hb), e2.res b (List.mem_cons_of_mem _ hb)]; exact resc b hb
            have racc3 : RVs K gf H3 al3 (D :: be) acc vs := (racc.ext e2).ext e3
            cases b with
            | false =>
              refine iteF ?_
              exact ⟨al3, st2, acc, vs, rest, S3, hD3, racc3, by omega, g3, res3, hF rfl, efull⟩
            | true =>
              refine iteT ?_
              obtain ⟨y, st3, r', hm, hrest, rfl⟩ := hT rfl
              refine ⟨al3, D :: be, ρ1, st2, S3, L3.ext e3, ?_⟩
              rw [hm]
              intro H4 al4 S4 e4 yv ryv
              have hD4 : H4 D = some (.lst vs) := by rw [e4.res D List.mem_cons_self]; exact hD3
              have hal2 : vs.length < sizeLine := by rw [← racc.length]; omega
              refine ⟨vs, hD4, hal2, ?_⟩
              -- the item is appended
              have npal : D ∉ al4 := S4.dis D List.mem_cons_self
              have gu : Gr K (D :: be) H4 al4 (D :: be) (upd H4 D (.lst (vs ++ [yv]))) al4 := by
                refine ⟨⟨[], by simp⟩, fun a xs q => ?_, fun a xs q => ?_, fun a xs q => ?_⟩
                · rcases q with (q | ⟨ob, q⟩) | q
                  · have hne : a ≠ D := ne_of q hD4 (by intro z; cases z)
                    exact .inl (.inl (by rw [upd_ne hne]; exact q))
                  · have hne : a ≠ D := ne_of q hD4 (by intro z; cases z)
                    exact .inl (.inr ⟨ob, by rw [upd_ne hne]; exact q⟩)
                  · exact .inr q
                · obtain ⟨q1, q2, q3⟩ := q
                  have hne : a ≠ D := fun z => q3 (z ▸ List.mem_cons_self)
                  exact ⟨by rw [upd_ne hne]; exact q1, q2, q3⟩
                · rcases q with ⟨ob, q⟩ | q
                  · have hne : a ≠ D := ne_of q hD4 (by intro z; cases z)
                    exact .inl ⟨ob, by rw [upd_ne hne]; exact q⟩
                  · exact .inr q
              refine ⟨al4, st3, acc ++ [y], vs ++ [yv], r', ?_, upd_same, ((racc3.ext e4).append (.cons ryv .nil)).gr gu, by simp; omega, (g3.trans e4.toGr).trans gu, fun b hb => ?_, hrest, by simpa using efull⟩
              · refine ⟨S4.len, S4.nd, S4.dis, fun b hb => ?_, fun j o a k1 k2 => ?_⟩
                · by_cases hbD : b = D
                  · subst hbD; exact ⟨_, upd_same⟩
                  · rw [upd_ne hbD]; exact S4.res b hb
                · have ro := S4.obj j o a k1 k2
                  have hne : a ≠ D := fun z => npal (z ▸ List.mem_of_getElem? k2)
                  exact ro.gr gu (upd_ne hne) fun dx q => by rw [upd_ne (ne_of q hD4 (by intro z; cases z))]; exact q
              · have hbD : b ≠ D := fun z => DnB (z ▸ hb)
                rw [upd_ne hbD, e4.res b (List.mem_cons_of_mem _ hb)]
                exact res3 b hb
      · -- the end
        left
        have ei : i = src.items.length := by omega
        subst ei
        rw [List.drop_length] at run
        unfold lcG at run
        split at run
        · rename_i hok
          simp only [Option.some.injEq, Prod.mk.injEq, Res.ok.injEq] at run
          obtain ⟨rfl, rfl⟩ := run
          rw [List.append_nil] at efull
          subst efull
          obtain ⟨_, hstop⟩ := hJ src.items.length (D :: be) Hc alc stc gc Sc hok
          refine ⟨hstop rfl, ?_⟩
          -- the list is handed on
          have npal : D ∉ alc := Sc.dis D List.mem_cons_self
          have hz : acc.length ≤ sizeLine := Nat.le_trans hal hsz
          cases m with
          | false =>
            have gd : Gr K (D :: be) Hc alc be Hc alc := ⟨⟨[], by simp⟩, fun _ _ q => q, fun a xs q => ⟨q.1, q.2.1, fun z => q.2.2 (List.mem_cons_of_mem _ z)⟩, fun _ _ q => q⟩
            have S5 : SR K gf Hc alc be stc := ⟨Sc.len, Sc.nd, fun b hb => Sc.dis b (List.mem_cons_of_mem _ hb), fun b hb => Sc.res b (List.mem_cons_of_mem _ hb), fun j o a k1 k2 => (Sc.obj j o a k1 k2).gr gd rfl fun _ q => q⟩
            unfold mkL at p1
            rw [if_pos hz, if_neg Bool.false_ne_true] at p1
            exact p1 Hc alc S5 ⟨gc.trans gd, resc⟩ _ (.lst ⟨hDc, npal, DnB⟩ (racc.gr gd) hz)
          | true =>
            have gd : Gr K (D :: be) Hc alc be Hc (alc ++ [D]) := ⟨⟨[D], rfl⟩, fun _ _ q => q, fun a xs q => ⟨q.1, by
              simp only [List.mem_append, List.mem_singleton, not_or]
              exact ⟨q.2.1, fun z => q.2.2 (z ▸ List.mem_cons_self)⟩, fun z => q.2.2 (List.mem_cons_of_mem _ z)⟩, fun _ _ q => q⟩
            unfold mkL at p1
            rw [if_pos hz, if_pos rfl] at p1
            have S5 : SR K gf Hc (alc ++ [D]) be (stc ++ [.lst acc]) := by
              refine ⟨by simp [Sc.len], ?_, fun b hb => ?_, fun b hb => Sc.res b (List.mem_cons_of_mem _ hb), fun j o a k1 k2 => ?_⟩
              · rw [List.nodup_append]
                exact ⟨Sc.nd, by simp, fun a ha b hb => by simp at hb; subst hb; rintro rfl; exact npal ha⟩
              · simp only [List.mem_append, List.mem_singleton, not_or]
                exact ⟨Sc.dis b (List.mem_cons_of_mem _ hb), fun z => DnB (z ▸ hb)⟩
              · by_cases hj : j < stc.length
                · rw [List.getElem?_append_left hj] at k1
                  rw [List.getElem?_append_left (by rw [Sc.len]; exact hj)] at k2
                  exact (Sc.obj j o a k1 k2).gr gd rfl fun _ q => q
                · have hj' : j = stc.length := by
                    have := (List.getElem?_eq_some_iff.mp k1).1
                    simp at this; omega
                  subst hj'
                  rw [List.getElem?_append_right (Nat.le_refl _)] at k1
                  rw [List.getElem?_append_right (by rw [Sc.len]; exact Nat.le_refl _)] at k2
                  simp [Sc.len] at k1 k2
                  subst k1 k2
                  exact ⟨vs, hDc, racc.gr gd, hz⟩
            refine p1 Hc (alc ++ [D]) S5 ⟨gc.trans gd, resc⟩ _ (.ref ?_)
            rw [← Sc.len, List.getElem?_append_right (Nat.le_refl _)]
            simp
        · cases run
end
end TB
set_option Elab.async false
set_option linter.all false
set_option maxRecDepth 100000
set_option maxHeartbeats 4000000
/-! TB6: statements -/
namespace TB
open PySem PySem.Spec L2

inductive Out where
  | nx (ρ : Lo) | bk (ρ : Lo) | ct (ρ : Lo) | rt (d : D) | ex (c : Str) (ρ : Lo)
abbrev MS := Lo → Sto → Option (Out × Sto)

section
variable {X : Cx} {gf : Str → Option Addr} {K : PySem.W.Frag} {H : Hp} {al be : List Addr} {st : Sto} {d e : D} {v u : V} {l : List D} {W : WX}

def PostO (K : PySem.W.Frag) (gf : Str → Option Addr) (be : List Addr) (W : WX) (H : Hp) (al : List Addr) (D : Ends) : Option (Out × Sto) → Prop
  | none => False
  | some (.nx ρ, st1) => ∀ H1 al1 σ1, SR K gf H1 al1 be st1 → Ext K be H al H1 al1 → RS K gf H1 al1 be ρ σ1 → D.nx σ1 H1
  | some (.bk ρ, st1) => ∀ H1 al1 σ1, SR K gf H1 al1 be st1 → Ext K be H al H1 al1 → RS K gf H1 al1 be ρ σ1 → D.bk σ1 H1
  | some (.ct ρ, st1) => ∀ H1 al1 σ1, SR K gf H1 al1 be st1 → Ext K be H al H1 al1 → RS K gf H1 al1 be ρ σ1 → D.ct σ1 H1
  | some (.rt d, st1) => ∀ H1 al1 v, SR K gf H1 al1 be st1 → Ext K be H al H1 al1 → RV K gf H1 al1 be d v → D.rt v H1
  | some (.ex c ρ, st1) => ∀ H1 al1 σ1, SR K gf H1 al1 be st1 → Ext K be H al H1 al1 → RS K gf H1 al1 be ρ σ1 → wx gf W σ1 c H1
theorem PostO.ext {H1 : Hp} {al1 : List Addr} {D : Ends} {r : Option (Out × Sto)} (p : PostO K gf be W H al D r) (e : Ext K be H al H1 al1) : PostO K gf be W H1 al1 D r := by
  match r, p with
  | some (.nx ρ, st1), p => exact fun H2 al2 σ1 S e2 L => p H2 al2 σ1 S (e.trans e2) L
  | some (.bk ρ, st1), p => exact fun H2 al2 σ1 S e2 L => p H2 al2 σ1 S (e.trans e2) L
  | some (.ct ρ, st1), p => exact fun H2 al2 σ1 S e2 L => p H2 al2 σ1 S (e.trans e2) L
  | some (.rt d, st1), p => exact fun H2 al2 σ1 S e2 L => p H2 al2 σ1 S (e.trans e2) L
  | some (.ex c ρ, st1), p => exact fun H2 al2 σ1 S e2 L => p H2 al2 σ1 S (e.trans e2) L
def rdS (K : PySem.W.Frag) (gf : Str → Option Addr) (W : WX) (m : MS) : TS := fun D σ H => ∃ al be ρ st, SR K gf H al be st ∧ RS K gf H al be ρ σ ∧ PostO K gf be W H al D (m ρ st)
def SS (X : Cx) (gf : Str → Option Addr) (W : WX) (s : Stmt) (m : MS) : Prop := PS X s (rdS X.K gf W m)
def SSs (X : Cx) (gf : Str → Option Addr) (W : WX) (s : List Stmt) (m : MS) : Prop := PSs X s (rdS X.K gf W m)
/-- an expression, then more -/
def liftE {τ : Type} (m : M τ) (ρ : Lo) (k : τ → Sto → Option (Out × Sto)) : Sto → Option (Out × Sto) := fun st => match m st with
  | none => none
  | some (.ok t, st1) => k t st1
  | some (.exn c, st1) => some (.ex c ρ, st1)
theorem PostO.lift {τ : Type} {D : Ends} {m : M τ} {ρ : Lo} {k : τ → Sto → Option (Out × Sto)} {σ : St} (p : PostO K gf be W H al D (liftE m ρ k st)) (L : RS K gf H al be ρ σ) :
    Post K gf be (wx gf W σ) H al (m st) fun t st1 H1 al1 => PostO K gf be W H1 al1 D (k t st1) := by
  unfold liftE at p
  match h : m st with
  | none => rw [h] at p; exact p.elim
  | some (.ok t, st1) => rw [h] at p; exact fun H1 al1 S e => PostO.ext p e
  | some (.exn c, st1) => rw [h] at p; exact fun H1 al1 S e => p H1 al1 σ S e (L.ext e)

theorem ss_bad {s : Stmt} : SS X gf W s (fun _ _ => none) := ⟨fun _ _ _ _ _ _ ⟨_, _, _, _, _, _, p⟩ => p.elim⟩
def sSeq (a b : MS) : MS := fun ρ st => match a ρ st with
  | some (.nx ρ1, st1) => b ρ1 st1
  | r => r
def sNil : MS := fun ρ st => some (.nx ρ, st)
theorem sss_nil : SSs X gf W [] sNil := imSs pss_nil fun D σ H ⟨al, be, ρ, st, S, L, p⟩ => p H al σ S Ext.refl L
theorem sss_cons {s : Stmt} {ss : List Stmt} {a b : MS} (h1 : SS X gf W s a) (h2 : SSs X gf W ss b) : SSs X gf W (s :: ss) (sSeq a b) := by
  refine imSs (pss_cons h1 h2) fun D σ H ⟨al, be, ρ, st, S, L, p⟩ => ⟨al, be, ρ, st, S, L, ?_⟩
  unfold sSeq at p
  match h : a ρ st with
  | none => rw [h] at p; exact p
  | some (.nx ρ1, st1) => rw [h] at p; exact fun H1 al1 σ1 S1 e1 L1 => ⟨al1, be, ρ1, st1, S1, L1, PostO.ext p e1⟩
  | some (.bk ρ1, st1) => rw [h] at p; exact p
  | some (.ct ρ1, st1) => rw [h] at p; exact p
  | some (.rt d, st1) => rw [h] at p; exact p
  | some (.ex c ρ1, st1) => rw [h] at p; exact p
theorem ss_pass {pos : Pos} : SS X gf W (.Pass pos) sNil := imS ps_pass fun D σ H ⟨al, be, ρ, st, S, L, p⟩ => p H al σ S Ext.refl L
def sBreak : MS := fun ρ st => some (.bk ρ, st)
def sCont : MS := fun ρ st => some (.ct ρ, st)
theorem ss_break {pos : Pos} : SS X gf W (.Break pos) sBreak := imS ps_break fun D σ H ⟨al, be, ρ, st, S, L, p⟩ => p H al σ S Ext.refl L
theorem ss_cont {pos : Pos} : SS X gf W (.Continue pos) sCont := imS ps_continue fun D σ H ⟨al, be, ρ, st, S, L, p⟩ => p H al σ S Ext.refl L
variable {a b : Expr} {ma mb : Lo → M D} {pos : Pos}
def sExpr (m : Lo → M D) : MS := fun ρ => liftE (m ρ) ρ fun _ st => some (.nx ρ, st)
theorem ss_expr (ha : SE X gf W a ma) (hs : swapsWith a none pos.line X.env = pure false) : SS X gf W (.Expr a pos) (sExpr ma) := by
  refine imS (ps_expr ha hs) fun D σ H ⟨al, be, ρ, st, S, L, p⟩ => ⟨al, be, ρ, st, S, L, (PostO.lift p L).mono fun d st1 H1 al1 S1 e1 q v rv => ?_⟩
  exact q H1 al1 σ S1 Ext.refl (L.ext e1)
def sRet (m : Lo → M D) : MS := fun ρ => liftE (m ρ) ρ fun d st => some (.rt d, st)
theorem ss_ret (ha : SE X gf W a ma) : SS X gf W (.Return (some a) pos) (sRet ma) := by
  refine imS (ps_ret ha) fun D σ H ⟨al, be, ρ, st, S, L, p⟩ => ⟨al, be, ρ, st, S, L, (PostO.lift p L).mono fun d st1 H1 al1 S1 e1 q v rv => ?_⟩
  exact q H1 al1 v S1 Ext.refl rv
def sIf (c : Lo → M Bool) (a b : MS) : MS := fun ρ => liftE (c ρ) ρ fun k st => if k then a ρ st else b ρ st
theorem ss_if {c : Expr} {tc : Lo → M Bool} {sa sb : List Stmt} {na nb : MS} (hc : ST X gf W c tc) (ha : SSs X gf W sa na) (hb : SSs X gf W sb nb) : SS X gf W (.If c sa sb pos) (sIf tc na nb) := by
  refine imS (ps_if hc ha hb) fun D σ H ⟨al, be, ρ, st, S, L, p⟩ => ⟨al, be, ρ, st, S, L, (PostO.lift p L).mono fun k st1 H1 al1 S1 e1 q => ?_⟩
  cases k with
  | true => rw [if_pos rfl] at q ⊢; exact ⟨al1, be, ρ, st1, S1, L.ext e1, q⟩
  | false => rw [if_neg Bool.false_ne_true] at q ⊢; exact ⟨al1, be, ρ, st1, S1, L.ext e1, q⟩
/-- a target -/
def sAsg (t : Tg) (m : Lo → M D) : MS := fun ρ => liftE (m ρ) ρ fun d st => match bindT t d ρ with
  | some ρ1 => some (.nx ρ1, st)
  | none => none
theorem asg_of {t : Tg} {D : Ends} {σ : St} {H : Hp} (h : rdS K gf W (sAsg t ma) D σ H) : rdE K gf W ma σ H fun x H1 => gT K t x σ H1 D.nx := by
  obtain ⟨al, be, ρ, st, S, L, p⟩ := h
  refine ⟨al, be, ρ, st, S, L, (PostO.lift p L).mono fun d st1 H1 al1 S1 e1 q v rv => ?_⟩
  split at q
  · rename_i ρ1 hb
    exact bind_ok (L.ext e1) rv hb fun σ1 L1 _ => q H1 al1 σ1 S1 Ext.refl L1
  · exact q.elim
theorem ss_asg {tg : Expr} {t : Tg} (ha : SE X gf W a ma) (hg : SG X tg t) (hs : swapsWithSole [tg] a pos.line X.env = pure false) (hw : swappedStores [tg] a X.env = pure none)
    (h1 : (assignEach [tg] X.env).map (·.2) = [assign tg X.env]) : SS X gf W (.Assign [tg] a pos) (sAsg t ma) :=
  imS (ps_asg ha hg hs hw h1) fun D σ H h => asg_of h
/-- a, b = x, y -/
def sPar (i j : Nat) (ma mb : Lo → M D) : MS := fun ρ => liftE (M.bind (ma ρ) fun x => M.bind (mb ρ) fun y => M.pure (x, y)) ρ fun xy st => some (.nx ((ρ.set i (some xy.1)).set j (some xy.2)), st)
theorem ss_par {i j : Nat} {x y : Str} {px py pt : Pos} {kt k2 pt2} (hc : X.calm = true) (hN : X.N.Nodup) (hi : X.N[i]? = some x) (hj : X.N[j]? = some y) (hij : i ≠ j)
    (hx : X.env.scope.names.lookup x = some .local) (hy : X.env.scope.names.lookup y = some .local) (ha : SE X gf W a ma) (hb : SE X gf W b mb)
    (hw : swappedStores [.Tuple [.Name x px, .Name y py] kt pt] (.Tuple [a, b] k2 pt2) X.env = pure (some [x, y]))
    (hs : swapsWithSole [.Tuple [.Name x px, .Name y py] kt pt] (.Tuple [a, b] k2 pt2) pos.line X.env = pure false)
    (s1 : starEach [a, b] X.env = (false, eval a X.env) :: starEach [b] X.env) (s2 : starEach [b] X.env = (false, eval b X.env) :: starEach [] X.env) :
    SS X gf W (.Assign [.Tuple [.Name x px, .Name y py] kt pt] (.Tuple [a, b] k2 pt2) pos) (sPar i j ma mb) := by
  refine imS (ps_par hc hN hi hj hij hx hy (pa_cons ha (pa_cons hb pa_nil s2) s1) hw hs) fun D σ H ⟨al, be, ρ, st, S, L, p⟩ => ?_
  refine ⟨al, be, ρ, st, S, L, (PostO.lift p L).bind.mono fun d st1 H1 al1 S1 e1 q v rv => ?_⟩
  refine ⟨al1, be, ρ, st1, S1, L.ext e1, q.bind.mono fun d2 st2 H2 al2 S2 e2 q2 v2 rv2 => ?_⟩
  refine ⟨v, v2, rfl, ?_⟩
  exact (q2.ok S2) H2 al2 _ S2 Ext.refl ((((L.ext e1).ext e2).set (rv.ext e2)).set rv2)

/-! ### loops -/
open Classical in
noncomputable def loopF (src : Src) (t : Tg) (body : MS) : List D → MS
  | [] => fun ρ st => if src.ok st then some (.nx ρ, st) else none
  | d :: ds => fun ρ st => if src.ok st then (match bindT t d ρ with
    | none => none
    | some ρ1 => (match body ρ1 st with
      | some (.nx ρ2, st1) => loopF src t body ds ρ2 st1
      | some (.ct ρ2, st1) => loopF src t body ds ρ2 st1
      | some (.bk ρ2, st1) => some (.nx ρ2, st1)
      | r => r)) else none
noncomputable def sFor (t : Tg) (it : Lo → M Src) (body : MS) : MS := fun ρ => liftE (it ρ) ρ fun src st => loopF src t body src.items ρ st
theorem ss_for {tg iter : Expr} {t : Tg} {it : Lo → M Src} {bs : List Stmt} {body : MS} (hp : PassesOwn (model X.prog X.w) X.A X.env X.xe) (hc : X.calm = true) (hi : SI X gf W tg iter it) (hg : SG X tg t) (hb : SSs X gf W bs body)
    (hs : ∀ x, foldedSetIterable iter X.env x = pure x) : SS X gf W (.For tg iter bs [] pos) (sFor t it body) := by
  refine imS (ps_for hp hc hi hg hb hs) fun D σ H ⟨al, be, ρ, st, S, L, p⟩ => ?_
  refine ⟨al, be, ρ, st, S, L, (PostO.lift p L).mono fun src st1 H1 al1 S1 e1 q hsz J hJ => ?_⟩
  refine ⟨fun i mm σc Hc => ∃ alc ρc stc, i ≤ src.items.length ∧ mm = src.items.length - i ∧ SR X.K gf Hc alc be stc ∧ RS X.K gf Hc alc be ρc σc ∧ Ext X.K be H1 al1 Hc alc ∧ PostO X.K gf be W Hc alc D (loopF src t body (src.items.drop i) ρc stc),
    ⟨src.items.length, al1, ρ, st1, Nat.zero_le _, by simp, S1, L.ext e1, Ext.refl, by simpa using q⟩, ?_⟩
  rintro i mm σc Hc ⟨alc, ρc, stc, hi, rfl, Sc, Lc, ec, pc⟩
  by_cases hlt : i < src.items.length
  · right
    have hd : src.items[i]? = some src.items[i] := List.getElem?_eq_getElem hlt
    rw [List.drop_eq_getElem_cons hlt] at pc
    unfold loopF at pc
    split at pc
    · rename_i hok
      obtain ⟨hitem, _⟩ := hJ i be Hc alc stc ec.toGr Sc hok
      obtain ⟨hgo, hy⟩ := hitem _ hd
      split at pc
      · exact pc.elim
      · rename_i ρ1 hb1
        refine ⟨hgo, fun σ' H' => ∃ alc ρc stc, SR X.K gf H' alc be stc ∧ RS X.K gf H' alc be ρc σ' ∧ Ext X.K be H1 al1 H' alc ∧ PostO X.K gf be W H' alc D (loopF src t body (src.items.drop (i + 1)) ρc stc), ?_, ?_⟩
        · rintro σ' H' ⟨alc, ρc, stc, z⟩
          exact ⟨src.items.length - (i + 1), by omega, alc, ρc, stc, hlt, rfl, z⟩
        · intro x H2 hx
          obtain ⟨S2, e2, r2⟩ := hy x H2 hx
          refine bind_ok (Lc.ext e2) r2 hb1 fun σ1 L1 _ => ⟨alc, be, ρ1, stc, S2, L1, ?_⟩
          match hbd : body ρ1 stc with
          | none => rw [hbd] at pc; exact pc.elim
          | some (.nx ρ2, st2) => rw [hbd] at pc; exact fun H3 al3 σ3 S3 e3 L3 => ⟨al3, ρ2, st2, S3, L3, (ec.trans e2).trans e3, PostO.ext pc (e2.trans e3)⟩
          | some (.ct ρ2, st2) => rw [hbd] at pc; exact fun H3 al3 σ3 S3 e3 L3 => ⟨al3, ρ2, st2, S3, L3, (ec.trans e2).trans e3, PostO.ext pc (e2.trans e3)⟩
          | some (.bk ρ2, st2) => rw [hbd] at pc; exact fun H3 al3 σ3 S3 e3 L3 => pc H3 al3 σ3 S3 (e2.trans e3) L3
          | some (.rt d, st2) => rw [hbd] at pc; exact PostO.ext pc e2
          | some (.ex c ρ2, st2) => rw [hbd] at pc; exact PostO.ext pc e2
    · exact pc.elim
  · left
    have ei : i = src.items.length := by omega
    subst ei
    rw [List.drop_length] at pc
    unfold loopF at pc
    split at pc
    · rename_i hok
      obtain ⟨_, hstop⟩ := hJ src.items.length be Hc alc stc ec.toGr Sc hok
      exact ⟨hstop rfl, pc Hc alc σc Sc Ext.refl Lc⟩
    · exact pc.elim
def loopW (c : Lo → M Bool) (body : MS) : Nat → MS
  | 0 => fun _ _ => none
  | n + 1 => fun ρ => liftE (c ρ) ρ fun k st => if k then (match body ρ st with
      | some (.nx ρ2, st1) => loopW c body n ρ2 st1
      | some (.ct ρ2, st1) => loopW c body n ρ2 st1
      | some (.bk ρ2, st1) => some (.nx ρ2, st1)
      | r => r) else some (.nx ρ, st)
def sWhile (n : Nat) (c : Lo → M Bool) (body : MS) : MS := loopW c body n
theorem ss_while {n : Nat} {c : Expr} {tc : Lo → M Bool} {bs : List Stmt} {body : MS} (hp : PassesOwn (model X.prog X.w) X.A X.env X.xe) (hc : ST X gf W c tc) (hb : SSs X gf W bs body) : SS X gf W (.While c bs [] pos) (sWhile n tc body) := by
  refine imS (ps_while hp hc hb) fun D σ H ⟨al, be, ρ, st, S, L, p⟩ => ?_
  refine ⟨fun mm σc Hc => ∃ alc ρc stc, SR X.K gf Hc alc be stc ∧ RS X.K gf Hc alc be ρc σc ∧ PostO X.K gf be W Hc alc D (loopW tc body mm ρc stc), ⟨n, al, ρ, st, S, L, p⟩, ?_⟩
  rintro mm σc Hc ⟨alc, ρc, stc, Sc, Lc, pc⟩
  cases mm with
  | zero => exact pc.elim
  | succ mm =>
    unfold loopW at pc
    refine ⟨alc, be, ρc, stc, Sc, Lc, (PostO.lift pc Lc).mono fun k st1 H1 al1 S1 e1 q => ?_⟩
    cases k with
    | false =>
      rw [if_neg Bool.false_ne_true] at q
      exact iteF (q H1 al1 σc S1 Ext.refl (Lc.ext e1))
    | true =>
      rw [if_pos rfl] at q
      refine iteT ⟨fun σ' H' => ∃ alc ρc stc, SR X.K gf H' alc be stc ∧ RS X.K gf H' alc be ρc σ' ∧ PostO X.K gf be W H' alc D (loopW tc body mm ρc stc), fun σ' H' z => ⟨mm, Nat.lt_succ_self _, z⟩, al1, be, ρc, st1, S1, Lc.ext e1, ?_⟩
      match hbd : body ρc st1 with
      | none => rw [hbd] at q; exact q.elim
      | some (.nx ρ2, st2) => rw [hbd] at q; exact fun H3 al3 σ3 S3 e3 L3 => ⟨al3, ρ2, st2, S3, L3, PostO.ext q e3⟩
      | some (.ct ρ2, st2) => rw [hbd] at q; exact fun H3 al3 σ3 S3 e3 L3 => ⟨al3, ρ2, st2, S3, L3, PostO.ext q e3⟩
      | some (.bk ρ2, st2) => rw [hbd] at q; exact fun H3 al3 σ3 S3 e3 L3 => q H3 al3 σ3 S3 e3 L3
      | some (.rt d, st2) => rw [hbd] at q; exact q
      | some (.ex c ρ2, st2) => rw [hbd] at q; exact q

/-! ### comprehensions as values, as assignments -/
def SC (X : Cx) (gf : Str → Option Addr) (W : WX) (cs : List Expr) (m : Lo → M Bool) : Prop := PTs X cs (rdT X.K gf W m)
theorem sc_nil : SC X gf W [] (fun _ => M.pure true) := ⟨fun pins s σ H Q I ⟨al, be, ρ, st, S, L, p⟩ => pts_nil.run pins s σ H Q I (p.ok S)⟩
theorem sc_one {c : Expr} {tc : Lo → M Bool} (h : ST X gf W c tc) : SC X gf W [c] tc := pts_one h
variable {elt tg iter : Expr} {ifs : List Expr} {scope : Scope} {own : List (Str × Nat)} {t : Tg} {it : Lo → M Src} {tc : Lo → M Bool} {me : Lo → M D} {m : Bool}
theorem s_lc (hc : X.calm = true) (hN : X.N.Nodup) (hi : SI X gf W tg iter it) (ok : BlkOk X.N X.env.scope scope own) (ht : ∀ i ∈ t.slots, i ∈ own.map (·.2))
    (hg : ∀ (s : Shared) (H : Hp) (C : Addr) (cl : List (Str × Addr)) (fp : List Addr), SG (X.blk s H scope (compEnvC scope cl C X.env) fp) tg t)
    (hf : ∀ (s : Shared) (H : Hp) (C : Addr) (cl : List (Str × Addr)) (fp : List Addr), SC (X.blk s H scope (compEnvC scope cl C X.env) fp) gf W0 ifs tc)
    (he : ∀ (s : Shared) (H : Hp) (C : Addr) (cl : List (Str × Addr)) (fp : List Addr), SE (X.blk s H scope (compEnvC scope cl C X.env) fp) gf W0 elt me) (hs : ∀ x, foldedSetIterable iter X.env x = pure x) :
    SE X gf W (.ListComp elt [⟨tg, iter, ifs, 0⟩] scope pos) (mLc m t (own.map (·.2)) it tc me) :=
  imE (pe_lc (own := own) (wi := rdI X.K gf W it) (g := gT X.K t) (tt := rdT X.K gf W0 tc) (te := rdE X.K gf W0 me) hc hN hi ok hg hf he hs) fun σ H Q h => lc_of ht h
theorem ss_setLc {i : Nat} {y : Str} {py spos : Pos} (hc : X.calm = true) (hN : X.N.Nodup) (hy : X.N[i]? = some y) (hyl : X.env.scope.names.lookup y = some .local)
    (hsw : swapsWith (.ListComp elt [⟨tg, iter, ifs, 0⟩] scope pos) (some (.Name y py)) spos.line X.env = pure true) (hi : SI X gf W tg iter it) (ok : BlkOk X.N X.env.scope scope own) (ht : ∀ i ∈ t.slots, i ∈ own.map (·.2))
    (hg : ∀ (s : Shared) (H : Hp) (C : Addr) (cl : List (Str × Addr)) (fp : List Addr), SG (X.blk s H scope (compEnvC scope cl C X.env) fp) tg t)
    (hf : ∀ (s : Shared) (H : Hp) (C : Addr) (cl : List (Str × Addr)) (fp : List Addr), SC (X.blk s H scope (compEnvC scope cl C X.env) fp) gf W0 ifs tc)
    (he : ∀ (s : Shared) (H : Hp) (C : Addr) (cl : List (Str × Addr)) (fp : List Addr), SE (X.blk s H scope (compEnvC scope cl C X.env) fp) gf W0 elt me) (hs : ∀ x, foldedSetIterable iter X.env x = pure x) :
    SS X gf W (.Assign [.Name y py] (.ListComp elt [⟨tg, iter, ifs, 0⟩] scope pos) spos) (sAsg (.one i) (mLc m t (own.map (·.2)) it tc me)) :=
  imS (ps_setLc (own := own) (wi := rdI X.K gf W it) (g := gT X.K t) (tt := rdT X.K gf W0 tc) (te := rdE X.K gf W0 me) hc hN hy hyl hsw hi ok hg hf he hs) fun D σ H h => lc_of ht (asg_of h)
end
end TB
set_option Elab.async false
set_option linter.all false
set_option maxRecDepth 100000
set_option maxHeartbeats 4000000
/-! TB7: calls of defs; a def's own run -/
namespace TB
open PySem PySem.Spec L2
open PyProof.Rows (envOfC)

/-! ### what is left behind a call -/
mutual
def D.rlt (n : Nat) : D → Bool
  | .tup l => D.rlts n l
  | .lst l => D.rlts n l
  | .ref i => decide (i < n)
  | .non => true
  | .bl _ => true
  | .int _ => true
  | .str _ => true
  | .fn _ => true
  | .scr _ => true
def D.rlts (n : Nat) : List D → Bool
  | [] => true
  | d :: l => D.rlt n d && D.rlts n l
end
def MO.rlt (n : Nat) : MO → Bool
  | .lst l => D.rlts n l
  | .dct kvs => D.rlts n (kvs.map (·.2))
  | .ins _ fs => D.rlts n (fs.map (·.2))
def frz (n : Nat) (st1 : Sto) : D → D
  | .ref i => if i < n then .ref i else (match st1[i]? with
    | some (.lst l) => .lst l
    | _ => .ref i)
  | d => d
def DropOk (st st1 : Sto) (d : D) : Prop := (frz st.length st1 d).rlt st.length = true ∧ (st1.take st.length = st ∨ ∀ o ∈ st1.take st.length, o.rlt st.length = true)
open Classical in
noncomputable def dropM (st : Sto) (r : Res D) (st1 : Sto) : Option (Res D × Sto) := match r with
  | .ok d => if DropOk st st1 d then some (.ok (frz st.length st1 d), st1.take st.length) else some (.ok d, st1)
  | .exn c => if DropOk st st1 .non then some (.exn c, st1.take st.length) else some (.exn c, st1)
section
variable {X : Cx} {gf : Str → Option Addr} {K : PySem.W.Frag} {H H1 : Hp} {al al1 be : List Addr} {st st1 : Sto} {d e : D} {v u : V} {l : List D} {W : WX}
mutual
theorem RV.blw : ∀ {d : D} {v : V}, RV K gf H al be d v → d.rlt al.length = true
  | _, _, .non => rfl
  | _, _, .bl b => rfl
  | _, _, .int i => rfl
  | _, _, .str h h' => rfl
  | _, _, .tup h hs z => by simp only [D.rlt]; exact RVs.blw hs
  | _, _, .lst h hs z => by simp only [D.rlt]; exact RVs.blw hs
  | _, _, .ref h => by simp only [D.rlt]; exact decide_eq_true (List.getElem?_eq_some_iff.mp h).1
  | _, _, .fn h => rfl
  | _, _, .scr h z => rfl
theorem RVs.blw : ∀ {ds : List D} {vs : List V}, RVs K gf H al be ds vs → D.rlts al.length ds = true
  | _, _, .nil => rfl
  | _, _, .cons h hs => by simp only [D.rlts, RV.blw h, RVs.blw hs]; rfl
end
theorem RPs.blw {ka : Type} : ∀ {ds : List (ka × D)} {vs : List (ka × V)}, RPs K gf H al be ds vs → D.rlts al.length (ds.map (·.2)) = true
  | _, _, .nil => rfl
  | _, _, .cons h hs => by simp only [List.map_cons, D.rlts, RV.blw h, RPs.blw hs]; rfl
theorem RO.blw {a : Addr} : ∀ {o : MO}, RO K gf H al be a o → o.rlt al.length = true
  | .lst ds, ⟨vs, q, r, z⟩ => r.blw
  | .dct kvs, ⟨ws, q, r, _⟩ => r.blw
  | .ins c fs, ⟨C, dx, gs, q, q1, q2, r⟩ => r.blw
mutual
theorem RV.cut' {de : List Addr} : ∀ {d : D} {v : V}, RV K gf H (al ++ de) be d v → d.rlt al.length = true → RV K gf H al be d v
  | _, _, .non, _ => .non
  | _, _, .bl b, _ => .bl b
  | _, _, .int i, _ => .int i
  | _, _, .str h h', _ => .str h h'
  | _, _, .tup h hs z, q => by simp only [D.rlt] at q; exact .tup h (RVs.cut' hs q) z
  | _, _, .lst h hs z, q => by simp only [D.rlt] at q; exact .lst ⟨h.1, fun m => h.2.1 (List.mem_append_left _ m), h.2.2⟩ (RVs.cut' hs q) z
  | _, _, .ref h, q => by
    simp only [D.rlt, decide_eq_true_eq] at q
    rw [List.getElem?_append_left q] at h
    exact .ref h
  | _, _, .fn h, _ => .fn h
  | _, _, .scr h z, _ => .scr h z
theorem RVs.cut' {de : List Addr} : ∀ {ds : List D} {vs : List V}, RVs K gf H (al ++ de) be ds vs → D.rlts al.length ds = true → RVs K gf H al be ds vs
  | _, _, .nil, _ => .nil
  | _, _, .cons h hs, q => by
    simp only [D.rlts, Bool.and_eq_true] at q
    exact .cons (RV.cut' h q.1) (RVs.cut' hs q.2)
end
theorem RPs.cut' {ka : Type} {de : List Addr} : ∀ {ds : List (ka × D)} {vs : List (ka × V)}, RPs K gf H (al ++ de) be ds vs → D.rlts al.length (ds.map (·.2)) = true → RPs K gf H al be ds vs
  | _, _, .nil, _ => .nil
  | _, _, .cons h hs, q => by
    simp only [List.map_cons, D.rlts, Bool.and_eq_true] at q
    exact .cons (RV.cut' h q.1) (RPs.cut' hs q.2)
theorem RO.cut' {a : Addr} {de : List Addr} : ∀ {o : MO}, RO K gf H (al ++ de) be a o → o.rlt al.length = true → RO K gf H al be a o
  | .lst ds, ⟨vs, q, r, z⟩, h => ⟨vs, q, r.cut' h, z⟩
  | .dct kvs, ⟨ws, q, r, z⟩, h => ⟨ws, q, r.cut' h, z⟩
  | .ins c fs, ⟨C, dx, gs, q, q1, q2, r⟩, h => ⟨C, dx, gs, q, q1, q2, r.cut' h⟩
theorem drop_ok (S : SR K gf H al be st) (e : Ext K be H al H1 al1) (S1 : SR K gf H1 al1 be st1) (h : DropOk st st1 d) :
    SR K gf H1 al be (st1.take st.length) ∧ Ext K be H al H1 al ∧ ∀ v, RV K gf H1 al1 be d v → RV K gf H1 al be (frz st.length st1 d) v := by
  obtain ⟨de, rfl⟩ := e.pre
  obtain ⟨h1, h2⟩ := h
  have len1 : st1.length = al.length + de.length := by rw [← S1.len]; simp
  have bl : ∀ (i : Nat) o, i < st.length → st1[i]? = some o → o.rlt al.length = true := by
    intro i o hi ho
    have hm : (st1.take st.length)[i]? = some o := by rw [List.getElem?_take_of_lt hi]; exact ho
    rcases h2 with h2 | h2
    · rw [h2] at hm
      obtain ⟨a, _, ro⟩ := S.at hm
      exact ro.blw
    · rw [S.len]
      exact h2 o (List.mem_of_getElem? hm)
  refine ⟨⟨?_, ?_, fun b hb q => S1.dis b hb (List.mem_append_left _ q), S1.res, fun i o a k1 k2 => ?_⟩, ⟨⟨⟨[], by simp⟩, e.tup, fun a xs q => ?_, e.scr⟩, e.res⟩, fun v r => ?_⟩
  · rw [List.length_take, len1, S.len]; omega
  · exact (List.nodup_append.mp S1.nd).1
  · have hi : i < al.length := (List.getElem?_eq_some_iff.mp k2).1
    rw [List.getElem?_take_of_lt (by rw [← S.len]; exact hi)] at k1
    have ro := S1.obj i o a k1 (by rw [List.getElem?_append_left hi]; exact k2)
    exact ro.cut' (bl i o (by rw [← S.len]; exact hi) k1)
  · obtain ⟨q1, q2, q3⟩ := e.frl a xs q
    exact ⟨q1, fun m => q2 (List.mem_append_left _ m), q3⟩
  · rw [← S.len] at h1 ⊢
    by_cases hd : ∃ i l, d = .ref i ∧ ¬ i < al.length ∧ st1[i]? = some (.lst l)
    · obtain ⟨i, l, rfl, hi, hl⟩ := hd
      have ef : frz al.length st1 (.ref i) = .lst l := by simp only [frz, if_neg hi, hl]
      rw [ef] at h1 ⊢
      obtain ⟨a, vs, rfl, ha, q1, r1, z1⟩ := r.lstRef S1 hl
      have nal : a ∉ al := fun hm => by
        obtain ⟨j, hj⟩ := List.mem_iff_getElem?.mp hm
        have hjl := (List.getElem?_eq_some_iff.mp hj).1
        have hj' : (al ++ de)[j]? = some a := by rw [List.getElem?_append_left hjl]; exact hj
        obtain ⟨x1, y1⟩ := List.getElem?_eq_some_iff.mp hj'
        obtain ⟨x2, y2⟩ := List.getElem?_eq_some_iff.mp ha
        have := (List.getElem_inj S1.nd).mp (y1.trans y2.symm)
        omega
      have nbe : a ∉ be := fun hm => S1.dis a hm (List.mem_of_getElem? ha)
      simp only [D.rlt] at h1
      exact .lst ⟨q1, nal, nbe⟩ (r1.cut' h1) z1
    · have ef : frz al.length st1 d = d := by
        unfold frz
        split
        · split
          · rfl
          · split
            · rename_i hi _ l hl
              exact (hd ⟨_, l, rfl, hi, hl⟩).elim
            · rfl
        · rfl
      rw [ef] at h1 ⊢
      exact r.cut' h1

/-! ### a def -/
noncomputable def fnRun (nl : Nat) (body : MS) (ds : List D) : M D := fun st => match body (ds.map some ++ List.replicate (nl - ds.length) none) st with
  | some (.nx _, st1) => dropM st (.ok .non) st1
  | some (.rt d, st1) => dropM st (.ok d) st1
  | some (.ex c _, st1) => dropM st (.exn c) st1
  | _ => none
def wE' (gf : Str → Option Addr) (E : XK) : Str → Hp → Prop := fun c H => ∃ C, gf c = some C ∧ E (.ref C) none H
/-- the promise of a def that does what g says -/
def spF (K : PySem.W.Frag) (gf : Str → Option Addr) (n : Nat) (g : List D → M D) : Sp := fun vs H Q E => vs.length = n ∧ ∃ al be st ds, SR K gf H al be st ∧ RVs K gf H al be ds vs ∧
  Post K gf be (wE' gf E) H al (g ds st) fun d _ H1 al1 => ∀ v, RV K gf H1 al1 be d v → Q v H1
theorem RVs.start {ds : List D} {vs : List V} {N : List Str} (r : RVs K gf H al be ds vs) : RS K gf H al be (ds.map some ++ List.replicate (N.length - ds.length) none) (start N vs) := by
  unfold L2.start
  refine ⟨by simp [r.length], fun i d h => ?_⟩
  by_cases hi : i < ds.length
  · rw [List.getElem?_append_left (by simpa using hi), List.getElem?_map] at h
    obtain ⟨x, h1, h2⟩ := Option.map_eq_some_iff.mp h
    cases h2
    obtain ⟨v, h3, h4⟩ := r.get h1
    refine ⟨v, ?_, h4⟩
    rw [List.getElem?_append_left (by simp [← r.length, hi]), List.getElem?_map, h3]; rfl
  · rw [List.getElem?_append_right (by simpa using hi), List.getElem?_replicate] at h
    split at h <;> cases h
theorem fn_sound {P : Program} {w : World} {mg : Str → Option Value} {base : Heap} {k : Nat} {f : Addr} {name qual : Str} {params : Arguments} {body : List Stmt} {scope : Scope} {dV kV doc pm cdv ct oc : Value} {an od : Option Addr}
    {osl : Array (Option Value)} {N ps : List Str} {m : MS} (lk : K.lookup f = some ⟨oc, od, .func (PySem.W.fnOf name qual params body scope dV kV doc pm an cdv ct), osl⟩) (hcd : PySem.W.codeIn K cdv qual = true) (S : FnScope N ps scope)
    (hb : ∀ (A : Around) (outer : List Env) (s : Shared) (H : Hp) (E : XK), Room k (A.deeper (envOfC qual scope s.heap.objs.size f cdv)) →
      SSs (cxOf (L2.CX P w) P w K mg base N qual scope f cdv A outer s H E) gf (fun cls d _ H => E cls d H) body m) :
    FnOk P w K mg base (L2.CX P w) (k + 1) f (PySem.W.fnOf name qual params body scope dV kV doc pm an cdv ct) ps (spF K gf ps.length (fnRun N.length m)) := by
  refine fn_of lk hcd S (fun vs H Q E h => h.1) fun A outer s H vs Q E hr h => ?_
  obtain ⟨hl, al, be, st, ds, Sr, rs, p⟩ := h
  refine ⟨_, hb A outer s H E hr, al, be, _, st, Sr, rs.start, ?_⟩
  unfold fnRun at p
  match hm : m (ds.map some ++ List.replicate (N.length - ds.length) none) st with
  | none => rw [hm] at p; exact p.elim
  | some (.bk ρ, st1) => rw [hm] at p; exact p.elim
  | some (.ct ρ, st1) => rw [hm] at p; exact p.elim
  | some (.nx ρ, st1) =>
    rw [hm] at p
    intro H1 al1 σ1 S1 e1 L1
    have p : Post K gf be (wE' gf E) H al (dropM st (.ok .non) st1) fun d _ H1 al1 => ∀ v, RV K gf H1 al1 be d v → Q v H1 := p
    simp only [dropM] at p
    split at p
    · rename_i hd
      obtain ⟨S2, e2, r2⟩ := drop_ok Sr e1 S1 hd
      exact p _ _ S2 e2 _ (r2 _ .non)
    · exact p _ _ S1 e1 _ .non
  | some (.rt d, st1) =>
    rw [hm] at p
    intro H1 al1 v S1 e1 rv
    have p : Post K gf be (wE' gf E) H al (dropM st (.ok d) st1) fun d _ H1 al1 => ∀ v, RV K gf H1 al1 be d v → Q v H1 := p
    simp only [dropM] at p
    split at p
    · rename_i hd
      obtain ⟨S2, e2, r2⟩ := drop_ok Sr e1 S1 hd
      exact p _ _ S2 e2 _ (r2 _ rv)
    · exact p _ _ S1 e1 _ rv
  | some (.ex c ρ, st1) =>
    rw [hm] at p
    intro H1 al1 σ1 S1 e1 L1
    have p : Post K gf be (wE' gf E) H al (dropM st (.exn c) st1) fun d _ H1 al1 => ∀ v, RV K gf H1 al1 be d v → Q v H1 := p
    simp only [dropM] at p
    split at p
    · rename_i hd
      obtain ⟨S2, e2, r2⟩ := drop_ok Sr e1 S1 hd
      exact p _ _ S2 e2
    · exact p _ _ S1 e1

/-! ### its calls -/
/-- the global def f does what g says, of n arguments -/
def FOk (X : Cx) (gf : Str → Option Addr) (k : Nat) (f : Str) (n : Nat) (g : List D → M D) : Prop :=
  ∃ a fd ps, ps.length = n ∧ X.mg f = some (.ref a) ∧ PySem.W.keepIn X.K (.ref a) = true ∧ Binds X.K fd ps [] ∧ FnOk X.prog X.w X.K X.mg X.base (L2.CX X.prog X.w) k a fd ps (spF X.K gf n g)
def mCall (n : Nat) (g : List D → M D) (mr : Lo → M (List D)) : Lo → M D := fun ρ => M.bind (mr ρ) fun ds => if ds.length = n then g ds else M.stuck
variable {a : Expr} {es : List Expr} {mr : Lo → M (List D)} {pos p : Pos}
theorem s_call {k n : Nat} {f : Str} {g : List D → M D} (F : FOk X gf k f n g) (hr : Room k X.A) (hg : Gl X f) (tk : Takes X W) (ha : SA X gf W (a :: es) mr) (hdb : (f == ("__debug__" : Str)) = false)
    (he : starEach (a :: es) X.env = (false, eval a X.env) :: starEach es X.env) (hpl : (backTo pos (starEach es X.env)).any (·.1) = false) : SE X gf W (.Call (.Name f p) (a :: es) [] pos) (mCall n g mr) := by
  obtain ⟨fa, fd, ps, hn, hm, hk, hb, F⟩ := F
  refine imE (pe_callS F hr hg hm hk hb (fun σ => passAt tk σ) ha hdb he hpl) fun σ H Q h => ?_
  obtain ⟨al, be, ρ, st, S, L, p⟩ := h
  refine ⟨al, be, ρ, st, S, L, p.bind.mono fun ds st1 H1 al1 S1 e1 q vs rvs => ?_⟩
  split at q
  · rename_i hl
    exact ⟨by rw [← rvs.length]; exact hl, al1, be, st1, ds, S1, rvs, q⟩
  · exact q.elim
end
end TB
set_option Elab.async false
set_option linter.all false
set_option maxRecDepth 100000
set_option maxHeartbeats 4000000
/-! TM: a tuple, once or not at all -/
namespace L2
open PySem PySem.Spec PyProof.Rows
theorem tuple_mul1 (l : Addr) (items : Array Value) (n : Nat) (dd : Option Addr) (sl : Array (Option Value)) (x : Int) (u : Tok) (c0 : (decide (x < -(2 ^ 63)) || decide (x ≥ 2 ^ 63)) = false) (c1 : (items.isEmpty || x == 1) = true) :
    Meets (Builtin.«tuple.__mul__» ⟨[.ref l, .int x u], []⟩) (fun _ R s => s.heap.get? l = some { cls := .type "tuple", dict := dd, data := .seq items n, slots := sl } ∧
      R (.ok (.ret (Value.ref l))) s) :=
  .of_wp fun prog w A R s h => by
    obtain ⟨hp, g, d, tk, os⟩ := s
    obtain ⟨hl, h⟩ := h
    have f1 := AutoSeq1.idx_int
    wp_walk using wpAny_loadPart' hl
    repeat (first
      | (refine wpAny_ite_false (decide_eq_false (by rw [c0]; exact Bool.false_ne_true)) ?_; wp_walk using wpAny_loadPart' hl)
      | (refine wpAny_ite_true (decide_eq_true c1) ?_; wp_walk using wpAny_loadPart' hl))
    exact ⟨_, rfl, h⟩
theorem tuple_mul0 (l : Addr) (items : Array Value) (n : Nat) (dd : Option Addr) (sl : Array (Option Value)) (x : Int) (u : Tok) (c0 : (decide (x < -(2 ^ 63)) || decide (x ≥ 2 ^ 63)) = false) (c1 : (items.isEmpty || x == 1) = false) (c2 : (decide (x ≤ 0) || items.isEmpty) = true) :
    Meets (Builtin.«tuple.__mul__» ⟨[.ref l, .int x u], []⟩) (fun _ R s => s.heap.get? l = some { cls := .type "tuple", dict := dd, data := .seq items n, slots := sl } ∧
      R (.ok (.ret (Value.ref s.heap.objs.size))) { s with heap := s.heap.push { cls := Value.type "tuple", data := Data.seq #[] }, toks := s.toks }) :=
  .of_wp fun prog w A R s h => by
    obtain ⟨hp, g, d, tk, os⟩ := s
    obtain ⟨hl, h⟩ := h
    have f1 := AutoSeq1.idx_int
    wp_walk using wpAny_loadPart' hl
    repeat (first
      | (refine wpAny_ite_false (decide_eq_false (by rw [c0]; exact Bool.false_ne_true)) ?_; wp_walk using wpAny_loadPart' hl)
      | (refine wpAny_ite_false (decide_eq_false (by rw [c1]; exact Bool.false_ne_true)) ?_; wp_walk using wpAny_loadPart' hl)
      | (refine wpAny_ite_true (decide_eq_true c2) ?_; wp_walk using wpAny_loadPart' hl))
    exact ⟨_, rfl, h⟩
end L2
set_option Elab.async false
set_option linter.all false
set_option maxRecDepth 100000
set_option maxHeartbeats 4000000
/-! TC: more of the language: a tuple or a list times an int, dicts that are written out, sums, three names at once -/
namespace L2
open PySem PySem.Spec PyProof.Rows
section
variable {X : Cx}
/-- a tuple times an int: once, or not at all -/
def rRepS (K : PySem.W.Frag) : R2 := fun x y H Q => ∃ l k xs, x = .ref l ∧ y = .int k ∧ SqT K H l xs ∧ -(2 ^ 63) ≤ k ∧ k < 2 ^ 63 ∧
  (((xs = [] ∨ k = 1) ∧ Q (.ref l) H) ∨ (xs ≠ [] ∧ k ≤ 0 ∧ ∀ p, H p = none → Q (.ref p) (upd H p (.tup []))))
theorem op_repS : OpR X (binaryOp .Mult) (rRepS X.K) := by
  intro pins s σ H x y v u Q I rx ry h
  obtain ⟨l, k, xs, rfl, rfl, hT, h1, h2, h⟩ := h
  cases rx
  obtain ⟨t, rfl⟩ := ry
  obtain ⟨its, r, ⟨⟨cls, dd, data, sl⟩, ho, hc, n, hd⟩, hs⟩ := I.tuple hT
  simp only at hc hd
  subst hc hd
  have hle : its.length = xs.length := r.length.symm
  have c0 : (decide (k < -(2 ^ 63)) || decide (k ≥ 2 ^ 63)) = false := by
    rw [decide_eq_false (by omega), decide_eq_false (by omega)] <;> rfl
  rcases h with ⟨h, q⟩ | ⟨hne, hk, q⟩
  · have c1 : (its.toArray.isEmpty || k == 1) = true := by
      rcases h with rfl | rfl
      · cases its with
        | nil => rfl
        | cons a b => simp at hle
      · simp
    refine wpAny_binaryOp_repeat_ref (T := "tuple") (U := "int") (by decide) ⟨_, ho, rfl⟩ (fun s' => typeIs_int s' k t) noFill_tuple_mul F.fills_int_mul F.slot_int_rmul repeat_tuple F.slot_int_index.lookup
      (call_meets F.slot_int_rmul (typeIs_int s k t) F.entry_int_rmul (F.args_int_rmul_2 _ _) (int_rmul_tuple k t l its.toArray n dd sl)
        ⟨ho, rfl, ⟨_, ho, rfl⟩, call_meets F.slot_tuple_mul ⟨_, ho, rfl⟩ F.entry_tuple_mul (F.args_tuple_mul_2 _ _) (tuple_mul1 l its.toArray n dd sl k t c0 c1) ⟨ho, ?_⟩⟩)
    exact ⟨.ref l, H, I, rfl, q⟩
  · have hi : its.toArray.isEmpty = false := by
      cases its with
      | nil => exact absurd (List.eq_nil_of_length_eq_zero hle.symm) hne
      | cons a b => rfl
    have c1 : (its.toArray.isEmpty || k == 1) = false := by
      rw [hi, Bool.false_or]
      exact beq_eq_false_iff_ne.mpr (by omega)
    have c2 : (decide (k ≤ 0) || its.toArray.isEmpty) = true := by
      rw [decide_eq_true hk]; rfl
    refine wpAny_binaryOp_repeat_ref (T := "tuple") (U := "int") (by decide) ⟨_, ho, rfl⟩ (fun s' => typeIs_int s' k t) noFill_tuple_mul F.fills_int_mul F.slot_int_rmul repeat_tuple F.slot_int_index.lookup
      (call_meets F.slot_int_rmul (typeIs_int s k t) F.entry_int_rmul (F.args_int_rmul_2 _ _) (int_rmul_tuple k t l its.toArray n dd sl)
        ⟨ho, rfl, ⟨_, ho, rfl⟩, call_meets F.slot_tuple_mul ⟨_, ho, rfl⟩ F.entry_tuple_mul (F.args_tuple_mul_2 _ _) (tuple_mul0 l its.toArray n dd sl k t c0 c1 c2) ⟨ho, ?_⟩⟩)
    refine ⟨.ref s.heap.objs.size, _, I.laid (t' := s.toks) (o := .tup []) (fun b ob q => Heap.get?_push_of_some _ q) (Nat.le_refl _) ?_, rfl, q _ (I.hok.fresh (Nat.le_refl _))⟩
    exact ⟨Nat.zero_le _, [], .nil, IsTup.new _ _⟩
end
end L2
namespace TB
open PySem PySem.Spec L2
section
variable {X : Cx} {gf : Str → Option Addr} {K : PySem.W.Frag} {H : Hp} {al be : List Addr} {st : Sto} {d e : D} {v u : V} {l : List D} {W : WX}
/-! ### times -/
def fMul (i j : Int) : Option Int := if (-(2 ^ 64) < i ∧ i < 2 ^ 64) ∨ (-(2 ^ 64) < j ∧ j < 2 ^ 64) then some (i * j) else none
/-- a product; a tuple or a list so many times -/
def opMul (m : Bool) : D → D → M D
  | .int i, .int j => M.look fun _ => (fMul i j).map .int
  | .tup l, .int k => fun st => if -(2 ^ 63) ≤ k ∧ k < 2 ^ 63 then (if l = [] ∨ k = 1 then some (.ok (.tup l), st) else if k ≤ 0 then some (.ok (.tup []), st) else if k ≤ 1000 ∧ l.length ≤ 1000 then some (.ok (.tup (List.replicate k.toNat l).flatten), st) else none) else none
  | .str x, .int k => fun st => if k = 1 then some (.ok (.str x), st) else if k = 0 then some (.ok (.str Str.empty), st) else none
  | d, .int k => fun st => match lstOf st d with
    | some l => if -(2 ^ 63) ≤ k ∧ k < 2 ^ 63 ∧ l.length * k.toNat ≤ sizeLine then mkL m (List.replicate k.toNat l).flatten st else none
    | none => none
  | _, _ => M.stuck
theorem os_mul {m : Bool} : OpS X gf (binaryOp .Mult) (opMul m) := by
  intro pins s σ H x y v u Q I rx ry h
  obtain ⟨al, be, st, d, e, W, S, rd, re, p⟩ := h
  unfold opMul at p
  split at p
  · cases rd.int_inv; cases re.int_inv
    obtain ⟨t, e1, q⟩ := p.look S
    obtain ⟨k, e2, rfl⟩ := Option.map_eq_some_iff.mp e1
    unfold fMul at e2
    split at e2
    · cases e2
      exact op_mul pins s σ H _ _ v u Q I rx ry ⟨_, _, rfl, rfl, by assumption, q _ (.int _)⟩
    · cases e2
  · cases re.int_inv
    obtain ⟨a, vs, rfl, q1, r1, z1⟩ := rd.tup_inv
    rename_i l k
    split at p
    · rename_i hk
      split at p
      · rename_i h
        refine op_repS pins s σ H _ _ v u Q I rx ry ⟨a, k, vs, rfl, rfl, q1, hk.1, hk.2, .inl ⟨?_, p.ok S _ rd⟩⟩
        rcases h with rfl | h
        · cases r1; exact .inl rfl
        · exact .inr h
      · rename_i h
        have hne : vs ≠ [] := fun z => by subst z; cases r1; exact h (.inl rfl)
        split at p
        · rename_i h0
          exact op_repS pins s σ H _ _ v u Q I rx ry ⟨a, k, vs, rfl, rfl, q1, hk.1, hk.2, .inr ⟨hne, h0, fun q hq => p _ _ (S.new hq) (Ext.new hq S) _ (.tup (.of upd_same) .nil (Nat.zero_le _))⟩⟩
        · rename_i h0
          split at p
          · rename_i h1
            have hk1 : k ≠ 1 := fun z => h (.inr z)
            refine op_repT pins s σ H _ _ v u Q I rx ry ⟨a, k, vs, rfl, rfl, q1, hne, by omega, h1.1, by rw [← r1.length]; exact h1.2, fun q hq => p _ _ (S.new hq) (Ext.new hq S) _ (.tup (.of upd_same) ((r1.rep _).ext (Ext.new hq S)) ?_)⟩
            rw [PyProof.Rows.lm_len_rep_flat, sizeLine_eq]
            have a1 : k.toNat * l.length ≤ 1000 * 1000 := Nat.mul_le_mul (by omega) h1.2
            omega
          · exact p.elim
    · exact p.elim
  · cases re.int_inv
    obtain ⟨rfl, h1, h2⟩ := rd.str_inv
    obtain ⟨tx, rfl⟩ := rx
    obtain ⟨ty, rfl⟩ := ry
    split at p
    · rename_i h
      subst h
      refine P.mul_str (by decide) (fun _ z => by simp at z) (fun _ z => by simp at z) ?_
      rw [if_neg (by decide), if_pos (by simp)]
      exact ⟨.str _, H, I, ⟨_, rfl⟩, p.ok S _ (.str h1 h2)⟩
    · split at p
      · rename_i h
        subst h
        refine P.mul_str_none (by decide) (by decide) ?_
        exact ⟨.str _, H, I.tok _, ⟨_, rfl⟩, p.ok S _ (.str (by decide +kernel) (by decide +kernel))⟩
      · exact p.elim
  · cases re.int_inv
    dsimp only at p
    split at p
    · rename_i l hl
      obtain ⟨a, vs, rfl, q1, r1, z1⟩ := rd.lstOf S hl
      split at p
      · rename_i h
        exact op_rep pins s σ H _ _ v u Q I rx ry ⟨a, _, vs, rfl, rfl, q1, h.1, h.2.1, by rw [← r1.length]; exact h.2.2, fun q hq => mkL_ok S (r1.rep _) hq p⟩
      · exact p.elim
    · exact p.elim
  · exact p.elim
/-! ### sums -/
def intsOf : List D → Option (List Int)
  | [] => some []
  | .int i :: l => (intsOf l).map (i :: ·)
  | _ :: _ => none
def gSum : List D → M D
  | [d] => M.look fun st => ((lstOf st d).bind intsOf).map fun ns => .int ns.sum
  | _ => M.stuck
theorem RVs.ints : ∀ {ds : List D} {vs : List V} {ns : List Int}, RVs K gf H al be ds vs → intsOf ds = some ns → vs = ns.map V.int
  | _, _, _, .nil, h => by cases h; rfl
  | _, _, _, .cons (d := d) h hs, e => by
    cases d <;> simp only [intsOf] at e <;> try (cases e; done)
    obtain ⟨ns, e1, rfl⟩ := Option.map_eq_some_iff.mp e
    cases h.int_inv
    rw [List.map_cons, RVs.ints hs e1]
theorem cs_sum (hc : X.calm = true) : CallS X gf (.builtin "sum") gSum := by
  intro pins s σ H vs us Q I r h
  obtain ⟨al, be, st, ds, W, S, rd, p⟩ := h
  unfold gSum at p
  split at p
  · obtain ⟨t, e1, q⟩ := p.look S
    obtain ⟨ns, e2, rfl⟩ := Option.map_eq_some_iff.mp e1
    obtain ⟨l, e3, e4⟩ := Option.bind_eq_some_iff.mp e2
    cases rd with
    | cons r1 t1 =>
      cases t1
      obtain ⟨a, ws, rfl, q1, r2, z1⟩ := r1.lstOf S e3
      have := r2.ints e4
      subst this
      exact cr_sum hc pins s σ H _ us Q I r ⟨a, ns, rfl, .of q1, q _ (.int _)⟩
  · exact p.elim
/-! ### dicts that are written out -/
def kE : Key → Expr → Bool
  | .inl i, .Constant (.int j) _ _ => decide (i = j)
  | .inr x, .Constant (.str y) _ _ => decide (x = y) && PyData.strOk x && decide (x.length ≤ sizeLine)
  | _, _ => false
theorem kE_of {k : Key} {e : Expr} (h : kE k e = true) : PE X e (fun _ H Q => Q (kV k) H) := by
  unfold kE at h
  split at h
  · cases of_decide_eq_true h; exact pe_int
  · simp only [Bool.and_eq_true] at h; cases of_decide_eq_true h.1.1; exact pe_str
  · cases h
theorem kE_ok {k : Key} {e : Expr} (h : kE k e = true) : keyOk k := by
  unfold kE at h
  split at h
  · trivial
  · simp only [Bool.and_eq_true] at h; exact ⟨h.1.2, of_decide_eq_true h.2⟩
  · cases h
theorem KsOk.put {kvs : List (Key × D)} {k : Key} {d : D} (h : KsOk kvs) (hk : keyOk k) : KsOk (putG kvs k d) := by
  intro kv hkv
  unfold putG at hkv
  split at hkv
  · obtain ⟨q, hq, rfl⟩ := List.mem_map.mp hkv
    split
    · exact h q hq
    · exact h q hq
  · rcases List.mem_append.mp hkv with z | z
    · exact h kv z
    · simp at z; subst z; exact hk
def mergeG (kvs more : List (Key × D)) : List (Key × D) := more.foldl (fun acc kv => putG acc kv.1 kv.2) kvs
theorem RPs.merge : ∀ {more : List (Key × D)} {ms : List (Key × V)}, RPs K gf H al be more ms → ∀ {kvs : List (Key × D)} {ws : List (Key × V)}, RPs K gf H al be kvs ws → RPs K gf H al be (mergeG kvs more) (mergeK ws ms)
  | _, _, .nil, _, _, h => h
  | _, _, .cons r t, _, _, h => RPs.merge t (h.put r)
theorem KsOk.merge : ∀ {more kvs : List (Key × D)}, KsOk more → KsOk kvs → KsOk (mergeG kvs more)
  | [], _, _, h => h
  | kv :: more, _, hm, h => KsOk.merge (more := more) (fun q hq => hm q (List.mem_cons_of_mem _ hq)) (h.put (hm kv List.mem_cons_self))
theorem KsOk.zip {ks : List Key} {ds : List D} (h : ∀ k ∈ ks, keyOk k) : KsOk (ks.zip ds) := fun kv hkv => h _ (List.of_mem_zip hkv).1
theorem RPs.zip : ∀ {ks : List Key} {ds : List D} {vs : List V}, RVs K gf H al be ds vs → RPs K gf H al be (ks.zip ds) (ks.zip vs)
  | [], _, _, _ => by rw [List.zip_nil_left, List.zip_nil_left]; exact .nil
  | _ :: _, _, _, .nil => .nil
  | _ :: _, _, _, .cons h hs => .cons h (RPs.zip hs)
/-- the values are read, then the dict is there -/
def mDsp (ks : List Key) (mr : Lo → M (List D)) : Lo → M D := fun ρ st => match mr ρ (st ++ [.dct []]) with
  | some (.ok ds, st2) => (match st2[st.length]? with
    | some (.dct []) => if ds.length = ks.length then some (.ok (.ref st.length), st2.set st.length (.dct (mergeG [] (ks.zip ds)))) else none
    | _ => none)
  | some (.exn c, st2) => some (.exn c, st2)
  | none => none
def dTrs (K : PySem.W.Frag) (gf : Str → Option Addr) (W : WX) : List Key → List (Lo → M D) → List (TE × TE)
  | k :: ks, m :: ms => (fun _ H Q => Q (kV k) H, rdE K gf W m) :: dTrs K gf W ks ms
  | _, _ => []
def aAll : List (Lo → M D) → Lo → M (List D)
  | [] => aNil
  | m :: ms => aCons m (aAll ms)
theorem pairs_ok : ∀ (ks : List Key) (ms : List (Lo → M D)) {σ : St} {H : Hp} {al be : List Addr} {ρ : Lo} {st : Sto} {Q : List (V × V) → Hp → Prop}, ks.length = ms.length → SR K gf H al be st → RS K gf H al be ρ σ →
    Post K gf be (wx gf W σ) H al (aAll ms ρ st) (fun ds _ H1 al1 => ∀ vs, RVs K gf H1 al1 be ds vs → Q ((ks.zip vs).map fun kv => (kV kv.1, kv.2)) H1) → tPairs (dTrs K gf W ks ms) σ H Q
  | [], [], σ, H, al, be, ρ, st, Q, hl, S, L, p => p.ok S [] .nil
  | [], _ :: _, _, _, _, _, _, _, _, hl, _, _, _ => by cases hl
  | _ :: _, [], _, _, _, _, _, _, _, hl, _, _, _ => by cases hl
  | k :: ks, m :: ms, σ, H, al, be, ρ, st, Q, hl, S, L, p => by
    refine ⟨al, be, ρ, st, S, L, p.bind.mono fun d st1 H1 al1 S1 e1 p1 v rv => ?_⟩
    refine pairs_ok ks ms (by simpa using hl) S1 (L.ext e1) (p1.bind.mono fun l st2 H2 al2 S2 e2 p2 vs rvs => ?_)
    exact p2.ok S2 (v :: vs) (.cons (rv.ext e2) rvs)
theorem s_dsp {ks : List Key} {ms : List (Lo → M D)} {keys : List (Option Expr)} {values : List Expr} {pos : Pos} (h : PPs X pos keys values (dTrs X.K gf W ks ms)) (hall : keys.all (·.isSome) = true) (hl : keys.length = values.length) (h0 : keys ≠ []) (h15 : keys.length ≤ 15)
    (hk : ks.length = ms.length) (hk2 : ks.length = keys.length) (hko : ∀ k ∈ ks, keyOk k) : SE X gf W (.Dict keys values pos) (mDsp ks (aAll ms)) := by
  refine imE (pe_disp h hall hl h0 h15) fun σ H Q h => ?_
  obtain ⟨al, be, ρ, st, S, L, p⟩ := h
  intro q hq
  have e0 := Ext.push (o := .dK []) hq S
  have S0 := S.push (o := .dK []) (mo := .dct []) hq ⟨[], upd_same, .nil, fun _ h => by cases h⟩
  refine pairs_ok ks ms hk S0 (L.ext e0) ?_
  unfold mDsp at p
  generalize aAll ms ρ (st ++ [.dct []]) = r at p ⊢
  revert p
  rcases r with _ | ⟨⟨ds⟩ | ⟨c⟩, st2⟩
  · exact fun p => p
  · intro p H1 al1 S1 e1 vs rvs
    dsimp only at p
    split at p
    · rename_i hst
      split at p
      · rename_i hds
        obtain ⟨a, ha, ws, hH, rp, _⟩ := S1.at hst
        cases rp
        have hp : al1[st.length]? = some q := by
          obtain ⟨z, hz⟩ := e1.toGr.1
          rw [hz, List.getElem?_append_left (by simp [S.len]), ← S.len, List.getElem?_append_right (Nat.le_refl _)]
          simp
        rw [hp] at ha
        cases ha
        refine ⟨hH, ks.zip vs, rfl, ?_, ?_⟩
        · rw [List.length_zip, ← rvs.length, hds]; omega
        · have e2 := Ext.write (o := .dK (mergeK [] (ks.zip vs))) S1 hp
          refine p _ _ (S1.write hp ⟨_, upd_same, (RPs.merge (RPs.zip rvs) .nil).ext e2, KsOk.merge (KsOk.zip hko) (fun _ h => by cases h)⟩) ((e0.trans e1).trans e2) _ (.ref hp)
      · exact p.elim
    · exact p.elim
  · exact fun p H1 al1 S1 e1 => p H1 al1 S1 (e0.trans e1)
def mDnew : Lo → M D := fun _ st => some (.ok (.ref st.length), st ++ [.dct []])
theorem s_dnew {pos : Pos} : SE X gf W (.Dict [] [] pos) mDnew := by
  refine imE pe_dnewK fun σ H Q h => ?_
  obtain ⟨al, be, ρ, st, S, L, p⟩ := h
  intro q hq
  have e0 := Ext.push (o := .dK []) hq S
  refine p _ _ (S.push (o := .dK []) (mo := .dct []) hq ⟨[], upd_same, .nil, fun _ h => by cases h⟩) e0 _ (.ref ?_)
  rw [← S.len, List.getElem?_append_right (Nat.le_refl _)]
  simp
/-! ### three names at once -/
def sPar3 (i j l : Nat) (ma mb mc : Lo → M D) : MS := fun ρ => liftE (M.bind (ma ρ) fun x => M.bind (mb ρ) fun y => M.bind (mc ρ) fun z => M.pure (x, y, z)) ρ fun xy st => some (.nx (((ρ.set i (some xy.1)).set j (some xy.2.1)).set l (some xy.2.2)), st)
theorem ss_par3 {i j l : Nat} {x y z : Str} {a b c : Expr} {ma mb mc : Lo → M D} {px py pz pt pos : Pos} {kt k2 pt2} (hc : X.calm = true) (hN : X.N.Nodup) (hi : X.N[i]? = some x) (hj : X.N[j]? = some y) (hl : X.N[l]? = some z) (hij : i ≠ j) (hil : i ≠ l) (hjl : j ≠ l)
    (hx : X.env.scope.names.lookup x = some .local) (hy : X.env.scope.names.lookup y = some .local) (hz : X.env.scope.names.lookup z = some .local) (ha : SE X gf W a ma) (hb : SE X gf W b mb) (hcc : SE X gf W c mc)
    (hw : swappedStores [.Tuple [.Name x px, .Name y py, .Name z pz] kt pt] (.Tuple [a, b, c] k2 pt2) X.env = pure (some [x, y, z]))
    (hs : swapsWithSole [.Tuple [.Name x px, .Name y py, .Name z pz] kt pt] (.Tuple [a, b, c] k2 pt2) pos.line X.env = pure false)
    (s1 : starEach [a, b, c] X.env = (false, eval a X.env) :: starEach [b, c] X.env) (s2 : starEach [b, c] X.env = (false, eval b X.env) :: starEach [c] X.env) (s3 : starEach [c] X.env = (false, eval c X.env) :: starEach [] X.env) :
    SS X gf W (.Assign [.Tuple [.Name x px, .Name y py, .Name z pz] kt pt] (.Tuple [a, b, c] k2 pt2) pos) (sPar3 i j l ma mb mc) := by
  refine imS (ps_par3 hc hN hi hj hl hij hil hjl hx hy hz (pa_cons ha (pa_cons hb (pa_cons hcc pa_nil s3) s2) s1) hw hs) fun D σ H ⟨al, be, ρ, st, S, L, p⟩ => ?_
  refine ⟨al, be, ρ, st, S, L, (PostO.lift p L).bind.mono fun d st1 H1 al1 S1 e1 q v rv => ?_⟩
  refine ⟨al1, be, ρ, st1, S1, L.ext e1, q.bind.mono fun d2 st2 H2 al2 S2 e2 q2 v2 rv2 => ?_⟩
  refine ⟨al2, be, ρ, st2, S2, (L.ext e1).ext e2, q2.bind.mono fun d3 st3 H3 al3 S3 e3 q3 v3 rv3 => ?_⟩
  refine ⟨v, v2, v3, rfl, ?_⟩
  exact (q3.ok S3) H3 al3 _ S3 Ext.refl ((((((L.ext e1).ext e2).ext e3).set ((rv.ext e2).ext e3)).set (rv2.ext e3)).set rv3)
end
end TB
set_option Elab.async false
set_option linter.all false
set_option maxRecDepth 100000
set_option maxHeartbeats 4000000
/-! TS: len(set(xs)) of numbers and texts, the keys of a set one after another -/
namespace TB
open PySem PySem.Spec PyProof.Rows L2
/-- the unlike keys, in order -/
def memK (σ : List Key) (k : Key) : Bool := σ.any fun j => decide (k = j)
def addK (σ : List Key) (k : Key) : List Key := if memK σ k = true then σ else σ ++ [k]
def metK (ks : List Key) (i : Nat) : List Key := (ks.take i).foldl addK []
theorem metK_succ {ks : List Key} {i : Nat} {k : Key} (h : ks[i]? = some k) : metK ks (i + 1) = addK (metK ks i) k := by
  unfold metK
  rw [List.take_add_one, h, List.foldl_append]
  rfl
theorem metK_le (ks : List Key) : ∀ i, (metK ks i).length ≤ i
  | 0 => by simp [metK]
  | i + 1 => by
    have ih := metK_le ks i
    cases h : ks[i]? with
    | none =>
      have hl : ks.length ≤ i := List.getElem?_eq_none_iff.mp h
      have e : metK ks (i + 1) = metK ks i := by
        unfold metK
        rw [List.take_of_length_le hl, List.take_of_length_le (Nat.le_succ_of_le hl)]
      rw [e]
      omega
    | some k =>
      rw [metK_succ h]
      unfold addK
      split
      · omega
      · rw [List.length_append]; simp; omega
theorem addK_any (σ : List Key) (v k : Key) : memK (addK σ v) k = (memK σ k || decide (k = v)) := by
  unfold addK
  by_cases h : memK σ v = true
  · rw [if_pos h]
    by_cases e : k = v
    · subst e; rw [h]; rfl
    · rw [decide_eq_false e, Bool.or_false]
  · rw [if_neg h]
    simp [memK]
theorem addK_len (σ : List Key) (v : Key) : (addK σ v).length = if memK σ v = true then σ.length else σ.length + 1 := by
  unfold addK
  by_cases h : memK σ v = true
  · rw [if_pos h, if_pos h]
  · rw [if_neg h, if_neg h]; simp
section
variable {prog : Program} {w : World} {A : Around} {R : Result → Shared → Prop} {I : Addr} {fp wr : List Addr} {G : Array GenState → Array GenState → Prop} {n : Nat} {P : Nat → Value → Prop} {St : Nat → Shared → Prop}
/-- the loop that fills a set -/
theorem fillK (W : WalksS prog w A.in1 I fp wr G n P St) (S : Addr) (hSf : S ∉ fp) (ks : List Key) (hb : n + 1 < scanBound) (hval : ∀ i v, P i v → ∃ k, ks[i]? = some k ∧ RelV (kV k) v) :
    ∀ (m i : Nat) (s : Shared), n - i = m → i ≤ n → St i s → s.heap.SetOf (mixKind prog w) S (memK (metK ks i)) (metK ks i).length →
      (∀ s', Moved (S :: wr) G s s' → s'.heap.SetOf (mixKind prog w) S (memK (metK ks n)) (metK ks n).length → R (.ok (.ret .none)) s') →
      codeAny (model prog w) A (.builtin "set.update.loop" ⟨[.ref S, .ref I], []⟩) R s := by
  have hSw : S ∉ wr := fun h => hSf (W.sub _ h)
  have hsub : ∀ b ∈ wr, b ∈ S :: wr := fun b hb => List.mem_cons_of_mem _ hb
  intro m
  induction m with
  | zero =>
    intro i s hk hi hst hS hR
    obtain rfl : i = n := by omega
    refine codeAny_builtin PyProof.Rows.F.entry_set_update_loop ?_
    rw [Around.under_plainId PyProof.Rows.F.plain_set_update_loop _]
    show wpAny _ A.in1 (pyNext (.ref I) >>= _) _ _ s
    refine wpAny_bind (W.done s _ _ hst fun s' hm => ?_)
    show wpAny _ A.in1 (ret Value.none) _ _ s'
    obtain ⟨o, es, ep, t, ho, rest⟩ := hS
    exact wpAny_pure (hR s' (hm.mono hsub) ⟨o, es, ep, t, hm.heap S _ hSw ho, rest⟩)
  | succ m ih =>
    intro i s hk hi hst hS hR
    have hlt : i < n := by omega
    refine codeAny_builtin PyProof.Rows.F.entry_set_update_loop ?_
    rw [Around.under_plainId PyProof.Rows.F.plain_set_update_loop _]
    show wpAny _ A.in1 (pyNext (.ref I) >>= _) _ _ s
    refine wpAny_bind (W.item i s _ _ hlt hst fun v s' hP hst' hm => ?_)
    obtain ⟨k, hk', rk⟩ := hval i v hP
    have hS' : s'.heap.SetOf (mixKind prog w) S (memK (metK ks i)) (metK ks i).length := by
      obtain ⟨o, es, ep, tb, ho, rest⟩ := hS
      exact ⟨o, es, ep, tb, hm.heap S _ hSw ho, rest⟩
    show wpAny _ A.in1 (holding [v] (setAdd S v) >>= _) _ _ s'
    refine wpAny_bind (wpAny_holding ?_)
    unfold setAdd
    refine wpAny_holding ?_
    refine wpAny_bind ((mixKind prog w).pyHash (k := k) (kV_is rk) ?_)
    have hroom : (metK ks i).length + 1 < scanBound := by have := metK_le ks i; omega
    refine wpAny_setAddHashed_of (knd := mixKind prog w) (s := { s' with toks := s'.toks + 1 }) (kV_is rk) (key_scan rk) hS' hroom fun h' hsb hS2 => ?_
    have hSi : h'.SetOf (mixKind prog w) S (memK (metK ks (i + 1))) (metK ks (i + 1)).length := by
      have e1 : memK (metK ks (i + 1)) = fun k' => memK (metK ks i) k' || decide (k' = k) := funext fun k' => by rw [metK_succ hk', addK_any]
      have e2 : (metK ks (i + 1)).length = if memK (metK ks i) k = true then (metK ks i).length else (metK ks i).length + 1 := by rw [metK_succ hk', addK_len]
      rw [e1, e2]
      exact hS2
    refine wpAny_pure ⟨plainId_quiet PyProof.Rows.F.plain_set_update_loop _, ih (i + 1) _ (by omega) hlt (W.frame _ s' _ _ hst' (Nat.le_succ _) fun b hb o e => ?_) hSi fun s'' hm'' hS'' => ?_⟩
    · rw [hsb.2 b (fun h : b = S => hSf (by rw [← h]; exact hb))]; exact e
    · refine hR s'' (Moved.trans W.gtrans ((hm.mono hsub).then_heap (Nat.le_succ _) fun b o hb e => ?_) hm'') hS''
      rw [hsb.2 b (fun h : b = S => hb (by rw [h]; exact List.mem_cons_self))]; exact e
end
/-- how a set begins -/
theorem freshK {prog : Program} {w : World} {h : Heap} {a : Addr} {led : Bool} (hg : h.get? a = some { cls := .type "set", dict := none, data := .set #[] 0 (.fresh 0 0 led) }) (ks : List Key) : h.SetOf (mixKind prog w) a (memK (metK ks 0)) (metK ks 0).length :=
  show h.SetOf (mixKind prog w) a (fun _ => false) 0 from
  ⟨_, #[], 0, _, hg, ⟨rfl, rfl, rfl⟩, rfl, (fun e he => by simp at he), (fun k => by simp), (by decide), (by rfl), rfl⟩
section
variable {prog : Program} {w : World} {A : Around} {E : Value → Shared → Prop} {s : Shared}
theorem valsK_at {ks : List Key} {us : List Value} (r : Vals (ks.map kV) us) (i : Nat) (v : Value) (h : us[i]? = some v) : ∃ k, ks[i]? = some k ∧ RelV (kV k) v := by
  induction ks generalizing us i with
  | nil => cases r; simp at h
  | cons k ks ih =>
    cases r with
    | cons h1 h2 =>
      cases i with
      | zero => simp at h; subst h; exact ⟨k, rfl, h1⟩
      | succ i => simp at h ⊢; exact ih h2 i h
/-- what stands behind set(xs) -/
abbrev BehindK (prog : Program) (w : World) (s : Shared) (ks : List Key) (n : Nat) (Q : Value → Shared → Prop) : Prop := ∀ (h' : Heap) (tk : Nat), h'.SetOf (mixKind prog w) s.heap.objs.size (memK (metK ks n)) (metK ks n).length →
  (∀ b o, b < s.heap.objs.size → s.heap.get? b = some o → h'.get? b = some o) → Q (.ref s.heap.objs.size) { s with heap := h', toks := tk }
set_option maxHeartbeats 8000000 in
theorem call_setK_list {l : Addr} {items : Array Value} {ks : List Key} {Q : Value → Shared → Prop} (hh : A.handled = none) (hl : s.heap.IsList l items) (hi : Vals (ks.map kV) items.toList) (hn : items.size + 1 < scanBound) (h : BehindK prog w s ks items.size Q) :
    wpAny (model prog w) A (call (.type "set") [.ref l]) Q E s := by
  obtain ⟨c, tl, hmro⟩ := PySem.F.called_set.mro
  have hmade := PySem.F.called_set.made
  have hsub := PySem.F.called_set.sub
  refine wpAny_call (codeAny_of_tree ?_)
  show wpAny _ _ (callAny (.type "set") _) _ _ _
  refine wpAny_pure ⟨Code.quiet_builtin _ (by decide +kernel), codeAny_builtin PySem.F.entry_type_call ?_⟩
  rw [Around.under_plain (weight_type_call_type "set" [.ref l] []) rfl]
  have h1 := PySem.F.called_set.notType
  have h2 := PySem.F.called_set.canCreate
  have hct := PySem.F.typeCall_set_1 (.ref l)
  repeat (any_goals (first | assumption | wp_step))
  refine codeAny_mono (code_set_new_1 (.ref l) (E := E) (Q₁ := fun obj s₁ => ∃ led : Bool, obj = .ref s.heap.objs.size ∧ s₁ = { s with heap := s.heap.push { cls := .type "set", dict := none, data := .set #[] 0 (.fresh 0 0 led) } }) fun led => ⟨led, rfl, rfl⟩) fun r s₁ hr => ?_
  cases r with
  | error e => exact hr
  | ok fl =>
    cases fl with
    | ret obj =>
      obtain ⟨led, rfl, rfl⟩ := hr
      generalize hh1 : s.heap.push { cls := .type "set", dict := none, data := .set #[] 0 (.fresh 0 0 led) } = h1
      have hS : h1.get? s.heap.objs.size = some { cls := .type "set", dict := none, data := .set #[] 0 (.fresh 0 0 led) } := by rw [← hh1]; exact Heap.get?_push_size _ rfl
      have hsz1 : h1.objs.size = s.heap.objs.size + 1 := by rw [← hh1]; exact Heap.size_push _ _
      have hkp : ∀ b o, s.heap.get? b = some o → h1.get? b = some o := fun b o e => by rw [← hh1]; exact Heap.get?_push_of_some _ e
      have hT : Shared.TypeIs { s with heap := h1 } (.ref s.heap.objs.size) "set" := ⟨_, hS, rfl⟩
      have hli := PySem.F.called_set.init.lookup
      have hbi := PySem.F.called_set.init.bind (.ref s.heap.objs.size)
      repeat (any_goals (first | assumption | wp_step))
      refine codeAny_mono (codeAny_call_builtin (R := wants (fun r s₂ => r = .none ∧ ∃ h' tk, s₂ = { s with heap := h', toks := tk } ∧ h'.SetOf (mixKind prog w) s.heap.objs.size (memK (metK ks items.size)) (metK ks items.size).length ∧
          (∀ b o, b < s.heap.objs.size → s.heap.get? b = some o → h'.get? b = some o)) E) PySem.F.called_set.init.plain PySem.F.entry_set_init (check_set_init_1 hT ?_)) fun r₂ s₂ hr₂ => ?_
      · obtain ⟨ol, hol, hcl, nl, hdl⟩ := hl
        obtain ⟨ocls, odict, odata, oslots⟩ := ol
        simp only at hcl hdl
        subst hcl; subst hdl
        have hol' := hkp _ _ hol
        have hsls := PySem.F.sub_list_set
        have hslf := PySem.F.sub_list_frozenset
        have hne : (Value.type "list" == Value.type "dict") = false := by decide
        have hl1 : h1.IsList l items := ⟨_, hol', rfl, nl, rfl⟩
        unfold Builtin.«set.__init__» noKeywords Builtin.Frozenset.updateFrom
        generalize hPI : pyIter = PI
        wp_walk
        subst hPI
        refine wpAny_pyIter_list hl1 ?_
        refine wpAny_bind (wpAny_runValue ?_)
        have hlS : l < s.heap.objs.size := Heap.lt_size hol
        have hh3 : A.in1.in1.in1.handled = none := by simp [hh]
        have hneI : l ≠ h1.objs.size := by rw [hsz1]; exact Nat.ne_of_lt (Nat.lt_succ_of_lt hlS)
        have hSf : s.heap.objs.size ∉ [h1.objs.size, l] := by
          rw [hsz1]; simp only [List.mem_cons, List.mem_singleton, List.not_mem_nil, or_false, not_or]
          exact ⟨Nat.ne_of_lt (Nat.lt_succ_self _), Nat.ne_of_gt hlS⟩
        have hval : ∀ (i : Nat) (v : Value), items[i]? = some v → ∃ k, ks[i]? = some k ∧ RelV (kV k) v := fun i v hv => valsK_at hi i v (by rw [Array.getElem?_toList]; exact hv)
        refine fillK ((Walks.list hh3 _ l hneI items).toS) s.heap.objs.size hSf ks hn hval (items.size - 0) 0 _ (by omega) (Nat.zero_le _) ⟨⟨_, Heap.get?_push_size _ rfl, rfl, rfl⟩, (hl1.push _)⟩ ?hS0 ?hR
        case hS0 => exact freshK (Heap.get?_push_of_some _ hS) ks
        case hR =>
          intro s' hm hS'
          obtain ⟨h', g', d', tk', os'⟩ := s'
          have eg : g' = s.gens := hm.gens
          have ed : d' = s.drawn := hm.drawn
          have eo : os' = s.os := hm.os
          subst eg; subst ed; subst eo
          show wpAny _ _ _ _ _ _
          refine wpAny_pure ?_
          show wpAny _ _ (ret Value.none) _ _ _
          refine wpAny_pure ⟨rfl, h', tk', rfl, hS', fun b o hb e => ?_⟩
          have hb1 : b ≠ s.heap.objs.size := Nat.ne_of_lt hb
          have hb2 : b ≠ h1.objs.size := by rw [hsz1]; exact Nat.ne_of_lt (Nat.lt_succ_of_lt hb)
          exact hm.heap b o (by simp only [List.mem_cons, List.mem_singleton, List.not_mem_nil, or_false, not_or]; exact ⟨hb1, hb2⟩) (Heap.get?_push_of_some _ (hkp _ _ e))
      · cases r₂ with
        | error e => exact hr₂
        | ok fl₂ =>
          cases fl₂ with
          | ret r =>
            obtain ⟨rfl, h', tk, rfl, hS', hk'⟩ := hr₂
            repeat (any_goals (first | assumption | wp_step))
            exact h _ _ hS' hk'
          | _ => exact hr₂.elim
    | _ => exact hr.elim
set_option maxHeartbeats 8000000 in
theorem call_setK_tuple {l : Addr} {items : Array Value} {ks : List Key} {Q : Value → Shared → Prop} (hh : A.handled = none) (hl : s.heap.IsTuple l items) (hi : Vals (ks.map kV) items.toList) (hn : items.size + 1 < scanBound) (h : BehindK prog w s ks items.size Q) :
    wpAny (model prog w) A (call (.type "set") [.ref l]) Q E s := by
  obtain ⟨c, tl, hmro⟩ := PySem.F.called_set.mro
  have hmade := PySem.F.called_set.made
  have hsub := PySem.F.called_set.sub
  refine wpAny_call (codeAny_of_tree ?_)
  show wpAny _ _ (callAny (.type "set") _) _ _ _
  refine wpAny_pure ⟨Code.quiet_builtin _ (by decide +kernel), codeAny_builtin PySem.F.entry_type_call ?_⟩
  rw [Around.under_plain (weight_type_call_type "set" [.ref l] []) rfl]
  have h1 := PySem.F.called_set.notType
  have h2 := PySem.F.called_set.canCreate
  have hct := PySem.F.typeCall_set_1 (.ref l)
  repeat (any_goals (first | assumption | wp_step))
  refine codeAny_mono (code_set_new_1 (.ref l) (E := E) (Q₁ := fun obj s₁ => ∃ led : Bool, obj = .ref s.heap.objs.size ∧ s₁ = { s with heap := s.heap.push { cls := .type "set", dict := none, data := .set #[] 0 (.fresh 0 0 led) } }) fun led => ⟨led, rfl, rfl⟩) fun r s₁ hr => ?_
  cases r with
  | error e => exact hr
  | ok fl =>
    cases fl with
    | ret obj =>
      obtain ⟨led, rfl, rfl⟩ := hr
      generalize hh1 : s.heap.push { cls := .type "set", dict := none, data := .set #[] 0 (.fresh 0 0 led) } = h1
      have hS : h1.get? s.heap.objs.size = some { cls := .type "set", dict := none, data := .set #[] 0 (.fresh 0 0 led) } := by rw [← hh1]; exact Heap.get?_push_size _ rfl
      have hsz1 : h1.objs.size = s.heap.objs.size + 1 := by rw [← hh1]; exact Heap.size_push _ _
      have hkp : ∀ b o, s.heap.get? b = some o → h1.get? b = some o := fun b o e => by rw [← hh1]; exact Heap.get?_push_of_some _ e
      have hT : Shared.TypeIs { s with heap := h1 } (.ref s.heap.objs.size) "set" := ⟨_, hS, rfl⟩
      have hli := PySem.F.called_set.init.lookup
      have hbi := PySem.F.called_set.init.bind (.ref s.heap.objs.size)
      repeat (any_goals (first | assumption | wp_step))
      refine codeAny_mono (codeAny_call_builtin (R := wants (fun r s₂ => r = .none ∧ ∃ h' tk, s₂ = { s with heap := h', toks := tk } ∧ h'.SetOf (mixKind prog w) s.heap.objs.size (memK (metK ks items.size)) (metK ks items.size).length ∧
          (∀ b o, b < s.heap.objs.size → s.heap.get? b = some o → h'.get? b = some o)) E) PySem.F.called_set.init.plain PySem.F.entry_set_init (check_set_init_1 hT ?_)) fun r₂ s₂ hr₂ => ?_
      · obtain ⟨ol, hol, hcl, nl, hdl⟩ := hl
        obtain ⟨ocls, odict, odata, oslots⟩ := ol
        simp only at hcl hdl
        subst hcl; subst hdl
        have hol' := hkp _ _ hol
        have hsls := PySem.F.sub_tuple_set
        have hslf := PySem.F.sub_tuple_frozenset
        have hne : (Value.type "tuple" == Value.type "dict") = false := by decide
        have hl1 : h1.IsTuple l items := ⟨_, hol', rfl, nl, rfl⟩
        unfold Builtin.«set.__init__» noKeywords Builtin.Frozenset.updateFrom
        generalize hPI : pyIter = PI
        wp_walk
        subst hPI
        refine wpAny_pyIter_tuple hl1 ?_
        refine wpAny_bind (wpAny_runValue ?_)
        have hlS : l < s.heap.objs.size := Heap.lt_size hol
        have hh3 : A.in1.in1.in1.handled = none := by simp [hh]
        have hneI : l ≠ h1.objs.size := by rw [hsz1]; exact Nat.ne_of_lt (Nat.lt_succ_of_lt hlS)
        have hSf : s.heap.objs.size ∉ [h1.objs.size, l] := by
          rw [hsz1]; simp only [List.mem_cons, List.mem_singleton, List.not_mem_nil, or_false, not_or]
          exact ⟨Nat.ne_of_lt (Nat.lt_succ_self _), Nat.ne_of_gt hlS⟩
        have hval : ∀ (i : Nat) (v : Value), items[i]? = some v → ∃ k, ks[i]? = some k ∧ RelV (kV k) v := fun i v hv => valsK_at hi i v (by rw [Array.getElem?_toList]; exact hv)
        refine fillK ((Walks.tuple hh3 _ l hneI items).toS) s.heap.objs.size hSf ks hn hval (items.size - 0) 0 _ (by omega) (Nat.zero_le _) ⟨⟨_, Heap.get?_push_size _ rfl, rfl, rfl⟩, (hl1.push _)⟩ ?hS0 ?hR
        case hS0 => exact freshK (Heap.get?_push_of_some _ hS) ks
        case hR =>
          intro s' hm hS'
          obtain ⟨h', g', d', tk', os'⟩ := s'
          have eg : g' = s.gens := hm.gens
          have ed : d' = s.drawn := hm.drawn
          have eo : os' = s.os := hm.os
          subst eg; subst ed; subst eo
          show wpAny _ _ _ _ _ _
          refine wpAny_pure ?_
          show wpAny _ _ (ret Value.none) _ _ _
          refine wpAny_pure ⟨rfl, h', tk', rfl, hS', fun b o hb e => ?_⟩
          have hb1 : b ≠ s.heap.objs.size := Nat.ne_of_lt hb
          have hb2 : b ≠ h1.objs.size := by rw [hsz1]; exact Nat.ne_of_lt (Nat.lt_succ_of_lt hb)
          exact hm.heap b o (by simp only [List.mem_cons, List.mem_singleton, List.not_mem_nil, or_false, not_or]; exact ⟨hb1, hb2⟩) (Heap.get?_push_of_some _ (hkp _ _ e))
      · cases r₂ with
        | error e => exact hr₂
        | ok fl₂ =>
          cases fl₂ with
          | ret r =>
            obtain ⟨rfl, h', tk, rfl, hS', hk'⟩ := hr₂
            repeat (any_goals (first | assumption | wp_step))
            exact h _ _ hS' hk'
          | _ => exact hr₂.elim
    | _ => exact hr.elim
end
end TB
namespace TB
open PySem PySem.Spec PyProof.Rows L2
section
variable {X : Cx}
def tLenSetK (K : PySem.W.Frag) (ta : TE) : TE := fun σ H Q => ta σ H fun x H1 => ∃ (l : Addr) (ks : List Key), x = .ref l ∧ (SqL K H1 l (ks.map kV) ∨ SqT K H1 l (ks.map kV)) ∧ ks.length ≤ 4000 ∧ Q (.int ((metK ks ks.length).length : Nat)) H1
theorem pe_lenSetK {a : Expr} {ta : TE} {p p2 q pos : Pos} (hc : X.calm = true) (hg : Gl X "len") (hm : X.mg "len" = none) (hg2 : Gl X "set") (hm2 : X.mg "set" = none) (ha : PE X a ta)
    (na : starEach [a] X.env = (false, eval a X.env) :: starEach [] X.env) : PE X (.Call (.Name "len" p) [.Call (.Name "set" p2) [a] [] q] [] pos) (tLenSetK X.K ta) := by
  refine ⟨fun pins s σ H Q I h => ?_⟩
  refine Call_ (ld_blt I hg hm boot_len ?_)
  refine PyProof.Rows.callWith_builtin1 (PyProof.Rows.args_cons ?_ rfl) rfl rfl
  refine Call_ (ld_blt I hg2 hm2 boot_set ?_)
  refine PyProof.Rows.callWith_type1 (PyProof.Rows.args_cons (thn (ha.run pins s σ H _ I h) fun v s1 ⟨x, H1, I1, r1, q1⟩ => PyProof.Rows.args_nil ?_) na) na rfl
  obtain ⟨l, ks, rfl, hq, h1, q1⟩ := q1
  cases r1
  have fin : ∀ (its : List Value), Vals (ks.map kV) its → BehindK X.prog X.w s1 ks its.toArray.size fun v s2 =>
      wpAny (model X.prog X.w) X.A (spliced (backTo pos (starEach [] X.env))) (fun vs s₂ => wpAny (model X.prog X.w) X.A (call (.builtin "len") (v :: vs)) (EP X pins σ Q) X.xe s₂) X.xe s2 := fun its r h' tk hS hk => by
    refine PyProof.Rows.args_nil ?_
    have hl : its.toArray.size = ks.length := by rw [List.size_toArray, ← r.length, List.length_map]
    rw [hl] at hS
    obtain ⟨o, es, ep, t, ho, hex, hd, _, _, _, hf, hn⟩ := hS
    have I2 : Inv X pins σ H1 { s1 with heap := h', toks := tk } := I1.kept fun b o e => hk b o (Heap.lt_size e) e
    have hle := metK_le ks ks.length
    refine call_len_set ho hex hd hf (by rw [hn] <;> omega) ⟨.int ((metK ks ks.length).length : Nat), H1, I2.tok _, ⟨_, by rw [hn]⟩, q1⟩
  have hlen : ∀ its : List Value, Vals (ks.map kV) its → its.toArray.size + 1 < scanBound := fun its r => by
    rw [List.size_toArray, ← r.length, List.length_map]
    unfold scanBound
    omega
  rcases hq with hq | hq
  · obtain ⟨its, r, pl, hz⟩ := I1.list hq
    exact call_setK_list (I1.ok.hd hc) pl.isList (by simpa using r) (hlen its r) (fin its r)
  · obtain ⟨its, r, pl, hz⟩ := I1.tuple hq
    exact call_setK_tuple (I1.ok.hd hc) pl (by simpa using r) (hlen its r) (fin its r)
end
end TB
set_option Elab.async false
set_option linter.all false
set_option maxRecDepth 100000
set_option maxHeartbeats 4000000
/-! TD: dict(pairs), d[k] = v, len(set(xs)) -/
namespace TB
open PySem PySem.Spec L2
section
variable {X : Cx} {gf : Str → Option Addr} {K : PySem.W.Frag} {H : Hp} {al be : List Addr} {st : Sto} {d e : D} {v u : V} {l : List D} {W : WX}
theorem RV.keyOk {k : Key} (r : RV K gf H al be d v) (h : keyOf d = some k) : keyOk k := by
  cases r <;> simp [keyOf] at h <;> subst h
  · trivial
  · rename_i h1 h2; exact ⟨h1, h2⟩
/-! ### dict(pairs) -/
def pairK : D → Option (Key × D)
  | .tup [k, v] => (keyOf k).map fun k => (k, v)
  | _ => none
def pairsOf : List D → Option (List (Key × D))
  | [] => some []
  | d :: l => (pairK d).bind fun p => (pairsOf l).map (p :: ·)
theorem pairK_of {p : Key × D} (r : RV K gf H al be d v) (h : pairK d = some p) : ∃ (a : Addr) (u : V), v = .ref a ∧ SqT K H a [kV p.1, u] ∧ RV K gf H al be p.2 u ∧ keyOk p.1 := by
  unfold pairK at h
  split at h
  · rename_i k w
    obtain ⟨key, hk, rfl⟩ := Option.map_eq_some_iff.mp h
    obtain ⟨a, vs, rfl, q1, r1, z1⟩ := r.tup_inv
    cases r1 with
    | cons h1 h2 =>
      cases h2 with
      | cons h3 h4 =>
        cases h4
        cases h1.key hk
        exact ⟨a, _, rfl, q1, h3, h1.keyOk hk⟩
  · cases h
theorem pairs_of : ∀ {l : List D} {vs : List V} {kvs : List (Key × D)}, RVs K gf H al be l vs → pairsOf l = some kvs → ∃ (ps : List Addr) (ws : List (Key × V)), vs = ps.map V.ref ∧ Paired (fun p kv => SqT K H p [kV kv.1, kv.2]) ps ws ∧ RPs K gf H al be kvs ws ∧ KsOk kvs
  | _, _, _, .nil, h => by
    cases h
    exact ⟨[], [], rfl, .nil, .nil, fun _ h => by cases h⟩
  | d :: l, _, kvs, .cons r rs, h => by
    unfold pairsOf at h
    obtain ⟨p, hp, h⟩ := Option.bind_eq_some_iff.mp h
    obtain ⟨q, hq, rfl⟩ := Option.map_eq_some_iff.mp h
    obtain ⟨a, u, rfl, h1, h2, h3⟩ := pairK_of r hp
    obtain ⟨ps, ws, rfl, h4, h5, h6⟩ := pairs_of rs hq
    refine ⟨a :: ps, (p.1, u) :: ws, rfl, .cons h1 h4, ?_, ?_⟩
    · obtain ⟨pk, pd⟩ := p
      exact .cons h2 h5
    · intro kv hkv
      rcases List.mem_cons.mp hkv with rfl | z
      · exact h3
      · exact h6 kv z
def gDict : List D → M D
  | [.lst l] => fun st => (match pairsOf l with
    | some kvs => some (.ok (.ref st.length), st ++ [.dct (mergeG [] kvs)])
    | none => none)
  | _ => M.stuck
theorem cs_dict (hc : X.calm = true) : CallS X gf (.type "dict") gDict := by
  intro pins s σ H xs us Q I rs q
  obtain ⟨al, be, st, ds, W, S, rd, p⟩ := q
  unfold gDict at p
  split at p
  · obtain ⟨v, rfl, r⟩ := rd.one
    split at p
    · rename_i kvs hk
      cases r with
      | lst h1 h2 z =>
        obtain ⟨ps, ws, rfl, h4, h5, h6⟩ := pairs_of h2 hk
        refine call_dictP hc pins s σ H _ us Q I rs ⟨_, ps, ws, rfl, h1.sq, h4, fun q hq => ?_⟩
        have e0 := Ext.push (o := .dK (mergeK [] ws)) hq S
        refine p _ _ (S.push (o := .dK (mergeK [] ws)) (mo := .dct (mergeG [] kvs)) hq ⟨_, upd_same, (RPs.merge h5 .nil).ext e0, KsOk.merge h6 (fun _ h => by cases h)⟩) e0 _ (.ref ?_)
        rw [← S.len, List.getElem?_append_right (Nat.le_refl _)]
        simp
    · exact p.elim
  · exact p.elim
/-! ### d[k] = v -/
def putT (o k v : D) : M Unit := fun st => match o, keyOf k with
  | .ref n, some key => (match st[n]? with
    | some (.dct kvs) => if kvs.length < sizeLine then some (.ok (), st.set n (.dct (putG kvs key v))) else none
    | _ => none)
  | _, _ => none
def sDput (mo mk mv : Lo → M D) : MS := fun ρ => liftE (M.bind (mv ρ) fun v => M.bind (mo ρ) fun o => M.bind (mk ρ) fun k => putT o k v) ρ fun _ st => some (.nx ρ, st)
theorem ss_dput {o i value : Expr} {mo mk mv : Lo → M D} {pos pos' : Pos} (hu : X.A.units + 1 < cLine) (ho : SE X gf W o mo) (hi : SE X gf W i mk) (hv : SE X gf W value mv) (hs : swapsWith value (some (.Subscript o i pos')) pos.line X.env = pure false) :
    SS X gf W (.Assign [.Subscript o i pos'] value pos) (sDput mo mk mv) := by
  refine imS (ps_dput hu ho hi hv hs) fun D σ H ⟨al, be, ρ, st, S, L, p⟩ => ?_
  refine ⟨al, be, ρ, st, S, L, (PostO.lift p L).bind.mono fun d st1 H1 al1 S1 e1 q v rv => ?_⟩
  refine ⟨al1, be, ρ, st1, S1, L.ext e1, q.bind.mono fun d2 st2 H2 al2 S2 e2 q2 v2 rv2 => ?_⟩
  refine ⟨al2, be, ρ, st2, S2, (L.ext e1).ext e2, q2.bind.mono fun d3 st3 H3 al3 S3 e3 q3 v3 rv3 => ?_⟩
  have L3 := ((L.ext e1).ext e2).ext e3
  have rd := (rv.ext e2).ext e3
  have ro := rv2.ext e3
  unfold putT at q3
  split at q3
  · rename_i n key hk
    split at q3
    · rename_i kvs hst
      split at q3
      · rename_i hlt
        cases ro with
        | ref ha =>
          obtain ⟨b, hb, ws, hH, rp, hok⟩ := S3.at hst
          rw [ha] at hb
          cases hb
          cases rv3.key hk
          have e4 := Ext.write (o := .dK (putK ws key v)) S3 ha
          refine ⟨_, _, rfl, DPut.k hH (by rw [← rp.length]; exact hlt), ?_⟩
          have S4 := S3.write (mo := .dct (putG kvs key d)) ha ⟨_, upd_same, (rp.put rd).ext e4, hok.put (rv3.keyOk hk)⟩
          exact q3 _ _ S4 e4 _ _ σ S4 Ext.refl (L3.ext e4)
      · exact q3.elim
    · exact q3.elim
  · exact q3.elim
/-! ### len(set(xs)) -/
def keysOf : List D → Option (List Key)
  | [] => some []
  | d :: l => (keyOf d).bind fun k => (keysOf l).map (k :: ·)
theorem keys_of : ∀ {l : List D} {vs : List V} {ks : List Key}, RVs K gf H al be l vs → keysOf l = some ks → vs = ks.map kV
  | _, _, _, .nil, h => by cases h; rfl
  | d :: l, _, _, .cons r rs, h => by
    unfold keysOf at h
    obtain ⟨k, hk, h⟩ := Option.bind_eq_some_iff.mp h
    obtain ⟨q, hq, rfl⟩ := Option.map_eq_some_iff.mp h
    rw [r.key hk, keys_of rs hq]
    rfl
def seqOf : D → Option (List D)
  | .tup l => some l
  | .lst l => some l
  | _ => none
def lenSetT (d : D) : Option D := (seqOf d).bind fun l => (keysOf l).bind fun ks => if ks.length ≤ 4000 then some (.int ((metK ks ks.length).length : Nat)) else none
def mLenSet (m : Lo → M D) : Lo → M D := fun ρ => M.bind (m ρ) fun d => M.look fun _ => lenSetT d
theorem s_lenset {a : Expr} {ma : Lo → M D} {p p2 q pos : Pos} (hc : X.calm = true) (hg : Gl X "len") (hm : X.mg "len" = none) (hg2 : Gl X "set") (hm2 : X.mg "set" = none) (ha : SE X gf W a ma)
    (na : starEach [a] X.env = (false, eval a X.env) :: starEach [] X.env) : SE X gf W (.Call (.Name "len" p) [.Call (.Name "set" p2) [a] [] q] [] pos) (mLenSet ma) := by
  refine imE (pe_lenSetK hc hg hm hg2 hm2 ha na) fun σ H Q h => ?_
  obtain ⟨al, be, ρ, st, S, L, p⟩ := h
  refine ⟨al, be, ρ, st, S, L, p.bind.mono fun d st1 H1 al1 S1 e1 p1 v rv => ?_⟩
  obtain ⟨r, e, hQ⟩ := p1.look S1
  unfold lenSetT at e
  obtain ⟨l, hl, e⟩ := Option.bind_eq_some_iff.mp e
  obtain ⟨ks, hk, e⟩ := Option.bind_eq_some_iff.mp e
  split at e
  · rename_i hlen
    cases e
    unfold seqOf at hl
    split at hl
    · cases hl
      obtain ⟨a, vs, rfl, q1, r1, z1⟩ := rv.tup_inv
      cases keys_of r1 hk
      exact ⟨a, ks, rfl, .inr q1, hlen, hQ _ (.int _)⟩
    · cases hl
      cases rv with
      | lst h1 h2 z =>
        cases keys_of h2 hk
        exact ⟨_, ks, rfl, .inl h1.sq, hlen, hQ _ (.int _)⟩
    · cases hl
  · cases e
end
end TB
set_option Elab.async false
set_option linter.all false
set_option maxRecDepth 100000
set_option maxHeartbeats 4000000
/-! TE: objects of the text's own classes: fields, methods, making -/
namespace L2
open PySem PySem.Spec PyProof.Rows
section
variable {X : Cx} {CX : CXT} {k : Nat} {f C : Addr} {fd : FuncData} {ps : List Str} {sp : Sp} {E : St → XK} {x m : Str} {p pos apos : Pos} {e o : Expr} {es : List Expr} {ta : TE} {t : TA}
def tMethW (C : Addr) (m : Str) (sp : Sp) (E : St → XK) (ta : TE) (t : TA) : TE := fun σ H Q => ta σ H fun x H1 => ∃ a dx fs, x = .ref a ∧ H1 a = some (.ins C dx fs) ∧ fs.lookup m = none ∧ t σ H1 fun vs H2 => sp (x :: vs) H2 Q (E σ)
theorem pe_methW {pl : Sem Bool} (he : PE X o ta) (c : Cls X.K C) (hm : Meth X.K C m f) (F : FnOk X.prog X.w X.K X.mg X.base CX k f fd ps sp) (hr : Room k X.A) (hb : Binds X.K fd ps []) (hx : ∀ σ, PassesAt CX X σ (E σ)) (ha : PA X (e :: es) t)
    (hst : starEach (e :: es) X.env = (false, eval e X.env) :: starEach es X.env) (hpl : (backTo pos (starEach es X.env)).any (·.1) = false)
    (ht : eval (.Call (.Attribute o m apos) (e :: es) [] pos) X.env = (do
      let ov ← eval o X.env
      standAt apos.atName
      let (f, first) ← holding [ov] (getMethod ov m pl)
      callWith pos f first (backTo pos (starEach (e :: es) X.env)) (backToKw pos (keywordEach [] X.env)))) :
    PE X (.Call (.Attribute o m apos) (e :: es) [] pos) (tMethW C m sp E ta t) := by
  refine ⟨fun pins s σ H Q I h => ?_⟩
  refine PySem.W.methodCall_KW (pl := pl) (thn (he.run pins s σ H _ I h) fun u s1 ⟨x, H1, I1, rx, a, dx, fs, ex, ea, l, q⟩ => ?_) ht
  subst ex
  obtain rfl : u = Value.ref a := rx
  refine getmeth_ok I1 ea c hm l ?_
  refine PySem.W.callWith_K (first := [.ref a]) (h₀ := X.base) I.ok.mod.kin hm.kp (thn (ha.run pos pins s1 σ H1 _ I1 q) fun us s2 ⟨vs, H2, I2, r, q2⟩ => ⟨I2.kIn, ?_⟩) hst hpl
  exact run_fnS (us := .ref a :: us) (vs := .ref a :: vs) F hr hb (hx σ) I2 (.cons rfl r) q2
theorem pe_methW0 {pl : Sem Bool} (he : PE X o ta) (c : Cls X.K C) (hm : Meth X.K C m f) (F : FnOk X.prog X.w X.K X.mg X.base CX k f fd ps sp) (hr : Room k X.A) (hb : Binds X.K fd ps []) (hx : ∀ σ, PassesAt CX X σ (E σ))
    (ht : eval (.Call (.Attribute o m apos) [] [] pos) X.env = (do
      let ov ← eval o X.env
      standAt apos.atName
      let (f, first) ← holding [ov] (getMethod ov m pl)
      callWith pos f first (backTo pos (starEach [] X.env)) (backToKw pos (keywordEach [] X.env)))) :
    PE X (.Call (.Attribute o m apos) [] [] pos) (tMethW C m sp E ta tNil) := by
  refine ⟨fun pins s σ H Q I h => ?_⟩
  refine PySem.W.methodCall_KW (pl := pl) (thn (he.run pins s σ H _ I h) fun u s1 ⟨x, H1, I1, rx, a, dx, fs, ex, ea, l, q⟩ => ?_) ht
  subst ex
  obtain rfl : u = Value.ref a := rx
  refine getmeth_ok I1 ea c hm l ?_
  exact PySem.W.callWith_K0 (first := [.ref a]) I1.kIn hm.kp (run_fnS (us := [.ref a]) (vs := [.ref a]) F hr hb (hx σ) I1 (.cons rfl .nil) q)
end
end L2
namespace TB
open PySem PySem.Spec L2
section
variable {X : Cx} {gf : Str → Option Addr} {K : PySem.W.Frag} {H : Hp} {al be : List Addr} {st : Sto} {d e : D} {v u : V} {l : List D} {W : WX}
/-! ### fields -/
def fputG {τ : Type} (f : Str) (v : τ) : List (Str × τ) → List (Str × τ)
  | [] => [(f, v)]
  | (g, x) :: r => if g = f then (g, v) :: r else (g, x) :: fputG f v r
theorem RPs.fput {f : Str} (r : RV K gf H al be d v) : ∀ {fs : List (Str × D)} {gs : List (Str × V)}, RPs K gf H al be fs gs → RPs K gf H al be (fputG f d fs) (putF f v gs)
  | _, _, .nil => .cons r .nil
  | _, _, .cons (k := g) h hs => by
    unfold fputG putF
    by_cases e : g = f
    · rw [if_pos e, if_pos e]; exact .cons r hs
    · rw [if_neg e, if_neg e]; exact .cons h (RPs.fput r hs)
theorem RPs.lookup {f : Str} : ∀ {fs : List (Str × D)} {gs : List (Str × V)}, RPs K gf H al be fs gs → (fs.lookup f = none ∧ gs.lookup f = none) ∨ ∃ d v, fs.lookup f = some d ∧ gs.lookup f = some v ∧ RV K gf H al be d v
  | _, _, .nil => .inl ⟨rfl, rfl⟩
  | _, _, .cons (k := g) h hs => by
    rw [List.lookup_cons, List.lookup_cons]
    cases q : f == g with
    | true => exact .inr ⟨_, _, rfl, rfl, h⟩
    | false => exact RPs.lookup hs
theorem RV.insRef {n : Nat} {c : Str} {fs : List (Str × D)} (S : SR K gf H al be st) (r : RV K gf H al be (.ref n) v) (h : st[n]? = some (.ins c fs)) :
    ∃ a C dx gs, v = .ref a ∧ al[n]? = some a ∧ H a = some (.ins C dx gs) ∧ H dx = some (.own a) ∧ gf c = some C ∧ RPs K gf H al be fs gs := by
  cases r with
  | ref ha =>
    obtain ⟨o, h2, ro⟩ := S.at' ha
    rw [h] at h2; cases h2
    obtain ⟨C, dx, gs, q⟩ := ro
    exact ⟨_, C, dx, gs, rfl, ha, q⟩
def fldT (c f : Str) (st : Sto) (d : D) : Option D := match d with
  | .ref n => (match st[n]? with
    | some (.ins c' fs) => if c' = c then fs.lookup f else none
    | _ => none)
  | _ => none
def mFld (c f : Str) (mo : Lo → M D) : Lo → M D := fun ρ => M.bind (mo ρ) fun d => M.look fun st => fldT c f st d
theorem s_fld {c f : Str} {C : Addr} {o : Expr} {mo : Lo → M D} {pos : Pos} (hg : gf c = some C) (hc : Cls X.K C) (hn : NoAttr X.K C f) (ho : SE X gf W o mo) (hb : attributeBase o f X.env (eval o X.env) = eval o X.env) : SE X gf W (.Attribute o f pos) (mFld c f mo) := by
  refine imE (pe_fld ho hb) fun σ H Q h => ?_
  obtain ⟨al, be, ρ, st, S, L, p⟩ := h
  refine ⟨al, be, ρ, st, S, L, p.bind.mono fun d st1 H1 al1 S1 e1 p1 v rv => ?_⟩
  obtain ⟨t, e, q⟩ := p1.look S1
  unfold fldT at e
  split at e
  · split at e
    · rename_i n c' fs hst
      split at e
      · rename_i hcc
        subst hcc
        obtain ⟨a, C', dx, gs, rfl, ha, h1, h2, h3, h4⟩ := rv.insRef S1 hst
        rw [hg] at h3
        cases h3
        rcases h4.lookup (f := f) with ⟨z, _⟩ | ⟨d', v', z1, z2, z3⟩
        · rw [z] at e; cases e
        · rw [z1] at e; cases e
          exact ⟨a, C, dx, gs, v', rfl, h1, hc, hn, z2, q _ z3⟩
      · cases e
    · cases e
  · cases e
def fputT (c f : Str) (d y : D) : M Unit := fun st => match d with
  | .ref n => (match st[n]? with
    | some (.ins c' fs) => if c' = c ∧ fs.length < 1000 then some (.ok (), st.set n (.ins c' (fputG f y fs))) else none
    | _ => none)
  | _ => none
def sFput (c f : Str) (mo mv : Lo → M D) : MS := fun ρ => liftE (M.bind (mv ρ) fun v => M.bind (mo ρ) fun o => fputT c f o v) ρ fun _ st => some (.nx ρ, st)
theorem ss_fput {c f : Str} {C : Addr} {o value : Expr} {mo mv : Lo → M D} {pos pos' : Pos} (hg : gf c = some C) (hc : Cls X.K C) (hn : NoAttr X.K C f) (ho : SE X gf W o mo) (hv : SE X gf W value mv) (hs : swapsWith value (some (.Attribute o f pos')) pos.line X.env = pure false) :
    SS X gf W (.Assign [.Attribute o f pos'] value pos) (sFput c f mo mv) := by
  refine imS (ps_fld ho hv hs) fun D σ H ⟨al, be, ρ, st, S, L, p⟩ => ?_
  refine ⟨al, be, ρ, st, S, L, (PostO.lift p L).bind.mono fun d st1 H1 al1 S1 e1 q v rv => ?_⟩
  refine ⟨al1, be, ρ, st1, S1, L.ext e1, q.bind.mono fun d2 st2 H2 al2 S2 e2 q2 v2 rv2 => ?_⟩
  have L2' := (L.ext e1).ext e2
  have rd := rv.ext e2
  unfold fputT at q2
  split at q2
  · split at q2
    · rename_i n c' fs hst
      split at q2
      · rename_i hcl
        obtain ⟨rfl, hlt⟩ := hcl
        obtain ⟨a, C', dx, gs, rfl, ha, h1, h2, h3, h4⟩ := rv2.insRef S2 hst
        rw [hg] at h3
        cases h3
        have e3 := Ext.write (o := .ins C dx (putF f v gs)) S2 ha
        have hne : dx ≠ a := fun z => by rw [z, h1] at h2; cases h2
        refine ⟨a, C, dx, gs, rfl, h1, hc, hn, by rw [← h4.length]; exact hlt, ?_⟩
        have S3 := S2.write (mo := .ins c' (fputG f d fs)) ha ⟨C, dx, _, upd_same, by rw [upd_ne hne]; exact h2, hg, (h4.fput rd).ext e3⟩
        exact q2 _ _ S3 e3 _ _ σ S3 Ext.refl (L2'.ext e3)
      · exact q2.elim
    · exact q2.elim
  · exact q2.elim
/-! ### methods -/
def insOk (c m : Str) (st : Sto) (d : D) : Bool := match d with
  | .ref n => (match st[n]? with
    | some (.ins c' fs) => decide (c' = c) && (fs.lookup m).isNone
    | _ => false)
  | _ => false
def mMeth (c m : Str) (n : Nat) (g : List D → M D) (mo : Lo → M D) (mr : Lo → M (List D)) : Lo → M D := fun ρ => M.bind (mo ρ) fun d => M.bind (M.look fun st => if insOk c m st d then some () else none) fun _ => M.bind (mr ρ) fun ds => if (d :: ds).length = n then g (d :: ds) else M.stuck
/-- the method m of the class c does what g says, of n arguments, self too -/
def MOk (X : Cx) (gf : Str → Option Addr) (k : Nat) (c m : Str) (n : Nat) (g : List D → M D) : Prop :=
  ∃ C a fd ps, gf c = some C ∧ Cls X.K C ∧ Meth X.K C m a ∧ ps.length = n ∧ Binds X.K fd ps [] ∧ FnOk X.prog X.w X.K X.mg X.base (L2.CX X.prog X.w) k a fd ps (spF X.K gf n g)
theorem insOk_of {c m : Str} (S : SR K gf H al be st) (r : RV K gf H al be d v) (h : insOk c m st d = true) {C : Addr} (hg : gf c = some C) : ∃ a dx gs, v = .ref a ∧ H a = some (.ins C dx gs) ∧ gs.lookup m = none := by
  unfold insOk at h
  split at h
  · split at h
    · rename_i n c' fs hst
      simp only [Bool.and_eq_true, decide_eq_true_eq, Option.isNone_iff_eq_none] at h
      obtain ⟨rfl, hl⟩ := h
      obtain ⟨a, C', dx, gs, rfl, ha, h1, h2, h3, h4⟩ := r.insRef S hst
      rw [hg] at h3
      cases h3
      rcases h4.lookup (f := m) with ⟨_, z⟩ | ⟨d', v', z1, z2, z3⟩
      · exact ⟨a, dx, gs, rfl, h1, z⟩
      · rw [z1] at hl; cases hl
    · cases h
  · cases h
variable {a o : Expr} {es : List Expr} {mo : Lo → M D} {mr : Lo → M (List D)} {pos p apos : Pos}
theorem s_meth {k n : Nat} {c m : Str} {g : List D → M D} {pl : Sem Bool} (F : MOk X gf k c m n g) (hr : Room k X.A) (tk : Takes X W) (ho : SE X gf W o mo) (ha : SA X gf W (a :: es) mr)
    (hst : starEach (a :: es) X.env = (false, eval a X.env) :: starEach es X.env) (hpl : (backTo pos (starEach es X.env)).any (·.1) = false)
    (ht : eval (.Call (.Attribute o m apos) (a :: es) [] pos) X.env = (do
      let ov ← eval o X.env
      standAt apos.atName
      let (f, first) ← holding [ov] (getMethod ov m pl)
      callWith pos f first (backTo pos (starEach (a :: es) X.env)) (backToKw pos (keywordEach [] X.env)))) : SE X gf W (.Call (.Attribute o m apos) (a :: es) [] pos) (mMeth c m n g mo mr) := by
  obtain ⟨C, fa, fd, ps, hg, hc, hm, hn, hb, F⟩ := F
  refine imE (pe_methW ho hc hm F hr hb (fun σ => passAt tk σ) ha hst hpl ht) fun σ H Q h => ?_
  obtain ⟨al, be, ρ, st, S, L, p⟩ := h
  refine ⟨al, be, ρ, st, S, L, p.bind.mono fun d st1 H1 al1 S1 e1 p1 v rv => ?_⟩
  obtain ⟨hb1, p1⟩ := look_if S1 p1
  obtain ⟨b, dx, gs, rfl, h1, h2⟩ := insOk_of S1 rv hb1 hg
  refine ⟨b, dx, gs, rfl, h1, h2, al1, be, ρ, st1, S1, L.ext e1, p1.bind.mono fun ds st2 H2 al2 S2 e2 q vs rvs => ?_⟩
  split at q
  · rename_i hl
    exact ⟨by rw [List.length_cons, ← rvs.length]; exact hl, al2, be, st2, d :: ds, S2, .cons (rv.ext e2) rvs, q⟩
  · exact q.elim
theorem s_meth0 {k n : Nat} {c m : Str} {g : List D → M D} {pl : Sem Bool} (F : MOk X gf k c m n g) (hr : Room k X.A) (tk : Takes X W) (ho : SE X gf W o mo)
    (ht : eval (.Call (.Attribute o m apos) [] [] pos) X.env = (do
      let ov ← eval o X.env
      standAt apos.atName
      let (f, first) ← holding [ov] (getMethod ov m pl)
      callWith pos f first (backTo pos (starEach [] X.env)) (backToKw pos (keywordEach [] X.env)))) : SE X gf W (.Call (.Attribute o m apos) [] [] pos) (mMeth c m n g mo aNil) := by
  obtain ⟨C, fa, fd, ps, hg, hc, hm, hn, hb, F⟩ := F
  refine imE (pe_methW0 ho hc hm F hr hb (fun σ => passAt tk σ) ht) fun σ H Q h => ?_
  obtain ⟨al, be, ρ, st, S, L, p⟩ := h
  refine ⟨al, be, ρ, st, S, L, p.bind.mono fun d st1 H1 al1 S1 e1 p1 v rv => ?_⟩
  obtain ⟨hb1, p1⟩ := look_if S1 p1
  obtain ⟨b, dx, gs, rfl, h1, h2⟩ := insOk_of S1 rv hb1 hg
  refine ⟨b, dx, gs, rfl, h1, h2, ?_⟩
  have q := p1.bind.ok S1
  split at q
  · rename_i hl
    exact ⟨hl, al1, be, st1, [d], S1, .cons rv .nil, q⟩
  · exact q.elim
/-! ### making -/
def iniN : Str := "__init__"
def mMk (c : Str) (n : Nat) (g : List D → M D) (mr : Lo → M (List D)) : Lo → M D := fun ρ => M.bind (mr ρ) fun ds => fun st =>
  if ds.length + 1 = n then (match g (.ref st.length :: ds) (st ++ [.ins c []]) with
    | some (.ok .non, st1) => some (.ok (.ref st.length), st1)
    | _ => none) else none
def KOk (X : Cx) (gf : Str → Option Addr) (k : Nat) (c : Str) (n : Nat) (g : List D → M D) : Prop :=
  ∃ C a fd ps, gf c = some C ∧ X.mg c = some (.ref C) ∧ Mk X.K C a ∧ ps.length = n ∧ Binds X.K fd ps [] ∧ FnOk X.prog X.w X.K X.mg X.base (L2.CX X.prog X.w) k a fd ps (spF X.K gf n g)
theorem passes0 : Passes (L2.CX X.prog X.w) X (fun _ _ _ => False) := fun pins σ H s e s' I c => passAt (W := fun _ _ _ _ => False) takes0 σ pins H s e s' I c
theorem mk_of {k n : Nat} {c : Str} {g : List D → M D} {C : Addr} {σ : St} {Q : VK} (hg : gf c = some C) (h : rdE X.K gf W (mMk c n g mr) σ H Q) : rdA X.K gf W mr σ H fun vs H1 => ∀ x dx, H1 x = none → H1 dx = none → dx ≠ x →
    spF X.K gf n g (.ref x :: (vs ++ [])) (upd (upd H1 dx (.own x)) x (.ins C dx [])) (fun v H2 => v = .non ∧ Q (.ref x) H2) fun _ _ _ => False := by
  obtain ⟨al, be, ρ, st, S, L, p⟩ := h
  refine ⟨al, be, ρ, st, S, L, p.bind.mono fun ds st1 H1 al1 S1 e1 p1 vs rvs x dx hx hdx hne => ?_⟩
  rw [List.append_nil]
  split at p1
  · rename_i hl
    have Sa := S1.new (o := .own x) hdx
    have ea := Ext.new (o := .own x) hdx S1
    have hx2 : upd H1 dx (.own x) x = none := by rw [upd_ne (Ne.symm hne)]; exact hx
    have eb := Ext.push (o := .ins C dx []) hx2 Sa
    have Sb := Sa.push (o := .ins C dx []) (mo := .ins c []) hx2 ⟨C, dx, [], upd_same, by rw [upd_ne hne, upd_same], hg, .nil⟩
    have hal : (al1 ++ [x])[st1.length]? = some x := by
      rw [← S1.len, List.getElem?_append_right (Nat.le_refl _)]; simp
    refine ⟨by rw [List.length_cons, ← rvs.length]; exact hl, al1 ++ [x], be, st1 ++ [.ins c []], .ref st1.length :: ds, Sb, .cons (.ref hal) ((rvs.ext ea).ext eb), ?_⟩
    match hr : g (.ref st1.length :: ds) (st1 ++ [.ins c []]) with
    | none => rw [hr] at p1; exact p1.elim
    | some (.exn c', st2) => rw [hr] at p1; exact p1.elim
    | some (.ok d, st2) =>
      rw [hr] at p1
      have ed : d = .non := by
        cases d <;> first | rfl | exact p1.elim
      subst ed
      rw [hr]
      intro H2 al2 S2 e2 v rv
      cases rv.non_inv
      refine ⟨rfl, p1 H2 al2 S2 ((ea.trans eb).trans e2) _ (.ref ?_)⟩
      obtain ⟨de, hde⟩ := e2.pre
      rw [hde, List.getElem?_append_left (List.getElem?_eq_some_iff.mp hal).1]
      exact hal
  · exact p1.elim
theorem s_mk {k n : Nat} {c : Str} {g : List D → M D} (F : KOk X gf k c n g) (hr : Room (k + 1) X.A) (hgl : Gl X c) (ha : SA X gf W (a :: es) mr) (hdb : (c == ("__debug__" : Str)) = false)
    (he : starEach (a :: es) X.env = (false, eval a X.env) :: starEach es X.env) (hpl : (backTo pos (starEach es X.env)).any (·.1) = false) : SE X gf W (.Call (.Name c p) (a :: es) [] pos) (mMk c n g mr) := by
  obtain ⟨C, fa, fd, ps, hg, hm, hmk, hn, hb, F⟩ := F
  exact imE (pe_make (dvs := []) hmk F hr hgl hm hb .nil passes0 ha hdb he hpl) fun σ H Q h => mk_of (k := k) hg h
end
end TB
set_option Elab.async false
set_option linter.all false
set_option maxRecDepth 100000
set_option maxHeartbeats 4000000
/-! TF: more of dicts, sorted, enumerate -/
namespace TB
open PySem PySem.Spec L2
section
variable {X : Cx} {gf : Str → Option Addr} {K : PySem.W.Frag} {H : Hp} {al be : List Addr} {st : Sto} {d e : D} {v u : V} {l : List D} {W : WX}
/-! ### d.get(k, x), d.pop(k) -/
def gGet : D → List D → M D
  | .ref n, [k, x] => M.look fun st => (match st[n]? with
    | some (.dct kvs) => (keyOf k).map fun key => (valG kvs key).getD x
    | _ => none)
  | _, _ => M.stuck
def gDpop : D → List D → M D
  | .ref n, [k] => fun st => (match st[n]?, keyOf k with
    | some (.dct kvs), some key => (match valG kvs key with
      | some v => some (.ok v, st.set n (.dct (dropG kvs key)))
      | none => none)
    | _, _ => none)
  | _, _ => M.stuck
theorem RV.isD (S : SR K gf H al be st) (r : RV K gf H al be d v) (h : TB.btOk st d .dict = true) : ∃ a, v = .ref a ∧ IsD H a := by
  unfold TB.btOk at h
  cases r with
  | @ref n a h1 =>
    obtain ⟨o, h2, ro⟩ := S.at' h1
    simp only [h2] at h
    cases o with
    | dct kvs => obtain ⟨ws, q, _⟩ := ro; exact ⟨a, rfl, .inl ⟨_, .inl q⟩⟩
    | lst l => simp at h
    | ins c fs => simp at h
  | _ => simp at h
theorem btOk_dict (h : TB.btOk st d .dict = true) : ∃ n kvs, d = .ref n ∧ st[n]? = some (.dct kvs) := by
  unfold TB.btOk at h
  dsimp only at h
  split at h
  · split at h
    · rename_i n _ kvs hk
      exact ⟨n, kvs, rfl, hk⟩
    · cases h
  · cases h
variable {o a b : Expr} {mo ma mb : Lo → M D} {apos cpos : Pos}
theorem s_dget (hu : X.A.units + 1 < cLine) (ho : SE X gf W o mo) (ha : SE X gf W a ma) (hb : SE X gf W b mb) (m : M2 X o "get" apos a b cpos) : SE X gf W (.Call (.Attribute o "get" apos) [a, b] [] cpos) (mBM .dict gGet mo (aCons ma (aCons mb aNil))) := by
  refine imE (pe_dget2 hu ho ha hb m) fun σ H Q h => ?_
  obtain ⟨al, be, ρ, st, S, L, p⟩ := h
  refine ⟨al, be, ρ, st, S, L, p.bind.mono fun d st1 H1 al1 S1 e1 p1 v rv => ?_⟩
  obtain ⟨hb, p1⟩ := look_if S1 p1
  obtain ⟨q, rfl, hq⟩ := rv.isD S1 hb
  refine ⟨q, rfl, hq, al1, be, ρ, st1, S1, L.ext e1, p1.bind.bind.mono fun k st2 H2 al2 S2 e2 p2 kv rk => ?_⟩
  refine ⟨al2, be, ρ, st2, S2, (L.ext e1).ext e2, p2.bind.bind.mono fun x st3 H3 al3 S3 e3 p3 xv rx => ?_⟩
  have p4 := (((p3.bind.ok S3).ok S3).ok S3)
  have rd := (rv.ext e2).ext e3
  have rk3 := rk.ext e3
  obtain ⟨n, kvs0, rfl, _⟩ := btOk_dict hb
  have p4 : Post X.K gf be (wx gf W σ) H3 al3 (gGet (.ref n) [k, x] st3) fun d _ H1 al1 => ∀ v, RV X.K gf H1 al1 be d v → Q v H1 := p4
  unfold gGet at p4
  · skip
    obtain ⟨t, e, hQ⟩ := p4.look S3
    split at e
    · rename_i kvs hst
      obtain ⟨key, hk, rfl⟩ := Option.map_eq_some_iff.mp e
      obtain ⟨a', ws, ea, ha', q1, r1, z1⟩ := rd.dctRef S3 hst
      cases ea
      cases rk3.key hk
      refine ⟨valV ws key, DGet.k q1, ?_⟩
      rcases r1.val (ks := key) with ⟨y1, y2⟩ | ⟨d', v', y1, y2, y3⟩
      · rw [y2]; rw [y1] at hQ; exact hQ _ rx
      · rw [y2]; rw [y1] at hQ; exact hQ _ y3
    · cases e
theorem s_dpop (ho : SE X gf W o mo) (ha : SE X gf W a ma) (m : M1 X o "pop" apos a cpos) : SE X gf W (.Call (.Attribute o "pop" apos) [a] [] cpos) (mBM .dict gDpop mo (aCons ma aNil)) := by
  refine imE (pe_dpop1 ho ha m) fun σ H Q h => ?_
  obtain ⟨al, be, ρ, st, S, L, p⟩ := h
  refine ⟨al, be, ρ, st, S, L, p.bind.mono fun d st1 H1 al1 S1 e1 p1 v rv => ?_⟩
  obtain ⟨hb, p1⟩ := look_if S1 p1
  obtain ⟨q, rfl, hq⟩ := rv.isD S1 hb
  refine ⟨q, rfl, hq, al1, be, ρ, st1, S1, L.ext e1, p1.bind.bind.mono fun k st2 H2 al2 S2 e2 p2 kv rk => ?_⟩
  have p4 := ((p2.bind.ok S2).ok S2)
  have rd := rv.ext e2
  obtain ⟨n, kvs0, rfl, _⟩ := btOk_dict hb
  have p4 : Post X.K gf be (wx gf W σ) H2 al2 (gDpop (.ref n) [k] st2) fun d _ H1 al1 => ∀ v, RV X.K gf H1 al1 be d v → Q v H1 := p4
  unfold gDpop at p4
  dsimp only at p4
  · skip
    split at p4
    · rename_i kvs key hst hk
      split at p4
      · rename_i x hx
        obtain ⟨a', ws, ea, ha', q1, r1, z1⟩ := rd.dctRef S2 hst
        cases ea
        cases rk.key hk
        rcases r1.val (ks := key) with ⟨y1, y2⟩ | ⟨d', v', y1, y2, y3⟩
        · rw [y1] at hx; cases hx
        · rw [y1] at hx; cases hx
          have e3 := Ext.write (o := .dK (dropK ws key)) S2 ha'
          refine ⟨ws, key, v', q1, rfl, y2, ?_⟩
          refine p4 _ _ (S2.write (mo := .dct (dropG kvs key)) ha' ⟨_, upd_same, (r1.drop).ext e3, fun kv hkv => z1 kv (List.mem_filter.mp hkv).1⟩) e3 _ (y3.ext e3)
      · exact p4.elim
    · exact p4.elim
/-! ### list(d), dict(d) -/
def gListD (m : Bool) : List D → M D
  | [.ref n] => fun st => (match st[n]? with
    | some (.dct kvs) => mkL m (kvs.map fun kv => ofKey kv.1) st
    | _ => gList m [.ref n] st)
  | ds => gList m ds
theorem RV.ofKey' {k : Key} (h : TB.keyOk k) : RV K gf H al be (TB.ofKey k) (kV k) := by
  cases k with
  | inl i => exact .int i
  | inr x => exact .str h.1 h.2
theorem RVs.keys : ∀ {kvs : List (Key × D)} {ws : List (Key × V)}, RPs K gf H al be kvs ws → KsOk kvs → RVs K gf H al be (kvs.map fun kv => ofKey kv.1) (ws.map fun kv => kV kv.1)
  | _, _, .nil, _ => .nil
  | _, _, .cons h hs, z => .cons (RV.ofKey' (z _ List.mem_cons_self)) (RVs.keys hs fun q hq => z q (List.mem_cons_of_mem _ hq))
theorem cs_listD {m : Bool} (hc : X.calm = true) : CallS X gf (.type "list") (gListD m) := by
  intro pins s σ H xs us Q I rs q
  obtain ⟨al, be, st, ds, W, S, rd, p⟩ := q
  unfold gListD at p
  split at p
  · split at p
    · rename_i n kvs hst
      obtain ⟨v, rfl, r⟩ := rd.one
      obtain ⟨a, ws, rfl, ha, q1, r1, z1⟩ := r.dctRef S hst
      exact call_list_dK hc pins s σ H _ us Q I rs ⟨a, ws, rfl, q1, fun q hq => mkL_ok S (RVs.keys r1 z1) hq p⟩
    · exact cs_list pins s σ H xs us Q I rs ⟨al, be, st, _, W, S, rd, p⟩
  · exact cs_list pins s σ H xs us Q I rs ⟨al, be, st, _, W, S, rd, p⟩
def gDictD : List D → M D
  | [.ref n] => fun st => (match st[n]? with
    | some (.dct kvs) => some (.ok (.ref st.length), st ++ [.dct kvs])
    | some (.lst l) => gDict [.lst l] st
    | _ => none)
  | ds => gDict ds
theorem cs_dictD (hc : X.calm = true) : CallS X gf (.type "dict") gDictD := by
  intro pins s σ H xs us Q I rs q
  obtain ⟨al, be, st, ds, W, S, rd, p⟩ := q
  unfold gDictD at p
  split at p
  · obtain ⟨v, rfl, r⟩ := rd.one
    split at p
    · rename_i n kvs hst
      obtain ⟨a, ws, rfl, ha, q1, r1, z1⟩ := r.dctRef S hst
      refine call_dictD pins s σ H _ us Q I rs ⟨a, ws, rfl, .inl q1, fun q hq => ?_⟩
      have e0 := Ext.push (o := .dK ws) hq S
      refine p _ _ (S.push (o := .dK ws) (mo := .dct kvs) hq ⟨_, upd_same, r1.ext e0, z1⟩) e0 _ (.ref ?_)
      rw [← S.len, List.getElem?_append_right (Nat.le_refl _)]
      simp
    · rename_i n l hst
      obtain ⟨a, vs, rfl, ha, q1, h2, z⟩ := r.lstRef S hst
      unfold gDict at p
      dsimp only at p
      split at p
      · rename_i kvs hk
        obtain ⟨ps, ws, rfl, h4, h5, h6⟩ := pairs_of h2 hk
        refine call_dictP hc pins s σ H _ us Q I rs ⟨_, ps, ws, rfl, .of q1, h4, fun q hq => ?_⟩
        have e0 := Ext.push (o := .dK (mergeK [] ws)) hq S
        refine p _ _ (S.push (o := .dK (mergeK [] ws)) (mo := .dct (mergeG [] kvs)) hq ⟨_, upd_same, (RPs.merge h5 .nil).ext e0, KsOk.merge h6 (fun _ h => by cases h)⟩) e0 _ (.ref ?_)
        rw [← S.len, List.getElem?_append_right (Nat.le_refl _)]
        simp
      · exact p.elim
    · exact p.elim
  · exact cs_dict hc pins s σ H xs us Q I rs ⟨al, be, st, _, W, S, rd, p⟩
/-! ### sorted -/
def encD (d : D) : PyData := d.py.getD .none
def dle : D → D → Bool := PySem.W.dataLe false encD
def srtOk (l : List D) : Prop := (∃ ps, D.pys l = some ps) ∧ PySem.W.AllAlike (l.map encD) ∧ PySem.W.Sortable (l.map encD) ∧ l.length ≤ sizeLine ∧ ∀ d ∈ l, (encD d).depth ≤ 60
def strsOf : List (Key × D) → Option (List Str)
  | [] => some []
  | (.inr x, _) :: r => (strsOf r).map (x :: ·)
  | (.inl _, _) :: _ => none
open Classical in
noncomputable def gSorted (m : Bool) : List D → M D
  | [d] => fun st => (match d with
    | .ref n => (match st[n]? with
      | some (.dct kvs) => (match strsOf kvs with
        | some ks => if ks.length < 64 then mkL m ((ks.map D.str).mergeSort dle) st else none
        | none => none)
      | some (.lst l) => if srtOk l then mkL m (l.mergeSort dle) st else none
      | _ => none)
    | .lst l => if srtOk l then mkL m (l.mergeSort dle) st else none
    | _ => none)
  | _ => M.stuck
theorem strsOf_of : ∀ {kvs : List (Key × D)} {ws : List (Key × V)} {ks : List Str}, RPs K gf H al be kvs ws → strsOf kvs = some ks → ws.map (·.1) = ks.map Sum.inr ∧ kvs.map (·.1) = ks.map Sum.inr
  | _, _, _, .nil, h => by cases h; exact ⟨rfl, rfl⟩
  | _, _, _, .cons (k := k) h hs, e => by
    cases k with
    | inl i => cases e
    | inr x =>
      unfold strsOf at e
      obtain ⟨q, hq, rfl⟩ := Option.map_eq_some_iff.mp e
      obtain ⟨h1, h2⟩ := strsOf_of hs hq
      exact ⟨by rw [List.map_cons, List.map_cons, h1], by rw [List.map_cons, List.map_cons, h2]⟩
theorem encD_str (x : Str) : encD (.str x) = .str x := rfl
theorem dle_str (x y : Str) : dle (.str x) (.str y) = decide (x.cps.toList ≤ y.cps.toList) := by
  have := congrFun (congrFun (PySem.W.dataLe_str (β := Str) (fun x => x)) x) y
  exact this
theorem rising_pw : ∀ (l : List Str) (x : Str), PyProof.Rows.risingS x l = true → (x :: l).Pairwise (fun a b => a.cps.toList ≤ b.cps.toList)
  | [], x, _ => List.pairwise_singleton _ _
  | y :: l, x, h => by
    unfold PyProof.Rows.risingS at h
    obtain ⟨h1, h2⟩ := Bool.and_eq_true_iff.mp h
    have ih := rising_pw l y h2
    have hxy : x.cps.toList ≤ y.cps.toList := by
      simp only [Bool.not_eq_true'] at h1
      rw [PyProof.Rows.ltCps_eq] at h1
      exact List.not_lt.mp (of_decide_eq_false h1)
    refine List.pairwise_cons.mpr ⟨fun z hz => ?_, ih⟩
    rcases List.mem_cons.mp hz with rfl | hz
    · exact hxy
    · exact List.le_trans hxy ((List.pairwise_cons.mp ih).1 z hz)
theorem str_inj {x y : Str} (h : x.cps.toList = y.cps.toList) : x = y := PySem.W.str_of_cps h
theorem sorted_strs_eq {ys ks : List Str} (hp : ys.Perm ks) (hs : PyProof.Rows.sortedS ys = true) : ys.map D.str = (ks.map D.str).mergeSort dle := by
  have hpw : ys.Pairwise (fun a b => decide (a.cps.toList ≤ b.cps.toList) = true) := by
    cases ys with
    | nil => exact .nil
    | cons y ys => exact (rising_pw ys y hs).imp fun h => decide_eq_true h
  have e : ys = ks.mergeSort (fun a b => decide (a.cps.toList ≤ b.cps.toList)) := by
    refine PySem.W.Srt.the_of_perm _ (fun a b c h1 h2 => ?_) (fun a b => ?_) (fun a b h1 h2 => ?_) hp hpw
    · exact decide_eq_true (List.le_trans (of_decide_eq_true h1) (of_decide_eq_true h2))
    · rcases List.le_total a.cps.toList b.cps.toList with z | z
      · simp [z]
      · simp [z]
    · exact str_inj (List.le_antisymm (of_decide_eq_true h1) (of_decide_eq_true h2))
  rw [e, PySem.W.sort_maps (s := dle) D.str (fun a _ b _ => (dle_str a b).symm)]
def RVx (K : PySem.W.Frag) (gf : Str → Option Addr) (H : Hp) (al be : List Addr) (u : Value) (d : D) : Prop := ∃ x, RelV x u ∧ RV K gf H al be d x
theorem eachS_of : ∀ {l : List D} {vs : List V} {us : List Value}, RVs K gf H al be l vs → Vals vs us → PySem.W.EachIs (RVx K gf H al be) us l
  | _, _, _, .nil, .nil => .nil
  | _, _, _, .cons h hs, .cons r rs => .cons ⟨_, r, h⟩ (eachS_of hs rs)
theorem of_each : ∀ {l : List D} {us : List Value}, PySem.W.EachIs (RVx K gf H al be) us l → ∃ vs, RVs K gf H al be l vs ∧ Vals vs us
  | _, _, .nil => ⟨[], .nil, .nil⟩
  | _, _, .cons ⟨x, r, h⟩ t => let ⟨vs, h1, h2⟩ := of_each t; ⟨x :: vs, .cons h h1, .cons r h2⟩
theorem each_reads {pins : List (Addr × Obj)} {s : Shared} {σ : St} (I : Inv X pins σ H s) : ∀ {l : List D} {vs : List V} {us : List Value} {ps : List PyData}, RVs X.K gf H al be l vs → Vals vs us → D.pys l = some ps → PySem.W.EachIs (fun v b => ∃ as, Reads s.heap v (encD b) as) us l
  | _, _, _, _, .nil, .nil, _ => .nil
  | d :: l, _, _, ps, .cons h hs, .cons r rs, e => by
    simp only [D.pys, Option.bind_eq_bind, Option.bind_eq_some_iff, Option.pure_def, Option.some.injEq] at e
    obtain ⟨a, e1, b, e2, rfl⟩ := e
    obtain ⟨q1, _⟩ := RV.dp h e1
    obtain ⟨as, rr⟩ := Dp.reads I a _ _ q1 r
    refine .cons ⟨as, ?_⟩ (each_reads I hs rs e2)
    unfold encD
    rw [e1]; exact rr
theorem sort_list {m : Bool} {pins : List (Addr × Obj)} {s : Shared} {σ : St} {us : List Value} {Q : VK} {W : Str → Hp → Prop} {a : Addr} {vs : List V} (hu : X.A.units + 66 < cLine) (I : Inv X pins σ H s) (rs : Vals [.ref a] us) (S : SR X.K gf H al be st) (q1 : H a = some (.lst vs)) (r1 : RVs X.K gf H al be l vs) (ho : srtOk l)
    (p : Post X.K gf be W H al (mkL m (l.mergeSort dle) st) fun t _ H1 al1 => ∀ v, RV X.K gf H1 al1 be t v → Q v H1) : wpAny (model X.prog X.w) X.A (call (.builtin "sorted") us) (EP X pins σ Q) X.xe s := by
  obtain ⟨⟨ps, hps⟩, hal, hso, hln, hdp⟩ := ho
  obtain ⟨its, rv, hl, hz⟩ := I.list (.of q1)
  rw [Vals.ref1 rs]
  refine PySem.W.sorted_data (bs := l) (enc := encD) hl.isList (eachS_of r1 rv) (each_reads I r1 rv hps) hal hso hln (fun b hb => ?_) fun out ho he => ?_
  · have := hdp b hb; omega
  · obtain ⟨ws, h1, h2⟩ := of_each he
    obtain ⟨ep, he'⟩ := PyProof.Rows.sortedAll_at s.heap its out.toArray
    have hlen : ws.length ≤ sizeLine := by
      rw [← h1.length, List.length_mergeSort]; exact hln
    exact ⟨.ref _, upd H (s.heap.objs.size + 1) (.lst ws), I.laid (t' := s.toks) (fun _ _ => PyProof.Rows.sortedAll_old) (Nat.le_succ _) ⟨hlen, out, ep, h2, he'⟩, rfl, mkL_ok S h1 (I.hok.fresh (Nat.le_succ _)) p⟩
theorem cs_sorted {m : Bool} (hc : X.calm = true) (hu : X.A.units + 66 < cLine) : CallS X gf (.builtin "sorted") (gSorted m) := by
  intro pins s σ H xs us Q I rs q
  obtain ⟨al, be, st, ds, W, S, rd, p⟩ := q
  unfold gSorted at p
  split at p
  · obtain ⟨v, rfl, r⟩ := rd.one
    split at p
    · split at p
      · rename_i n kvs hst
        split at p
        · rename_i ks hks
          split at p
          · rename_i hlt
            obtain ⟨a, ws, rfl, ha, q1, r1, z1⟩ := r.dctRef S hst
            obtain ⟨h1, h2⟩ := strsOf_of r1 hks
            refine call_sortedD hc pins s σ H _ us Q I rs ⟨a, ws, ks, rfl, .inl q1, h1, hlt, fun ys q hp hs hq => ?_⟩
            rw [← sorted_strs_eq hp hs] at p
            have hok : ∀ y ∈ ys, PyData.strOk y = true ∧ y.length ≤ sizeLine := fun y hy => by
              have hy2 : y ∈ ks := hp.mem_iff.mp hy
              have : (Sum.inr y : Key) ∈ kvs.map (·.1) := by rw [h2]; exact List.mem_map_of_mem hy2
              obtain ⟨kv, hkv, e⟩ := List.mem_map.mp this
              have := z1 kv hkv
              rw [e] at this
              exact this
            have rvs : RVs X.K gf H al be (ys.map D.str) (ys.map V.str) := by
              clear p hp hs
              induction ys with
              | nil => exact .nil
              | cons y ys ih => exact .cons (.str (hok y List.mem_cons_self).1 (hok y List.mem_cons_self).2) (ih fun z hz => hok z (List.mem_cons_of_mem _ hz))
            exact mkL_ok S rvs hq p
          · exact p.elim
        · exact p.elim
      · rename_i n l hst
        split at p
        · rename_i ho
          obtain ⟨a, vs, rfl, ha, q1, r1, z1⟩ := r.lstRef S hst
          exact sort_list hu I rs S q1 r1 ho p
        · exact p.elim
      · exact p.elim
    · rename_i l
      split at p
      · rename_i ho
        obtain ⟨a, vs, rfl, q1, r1, z1⟩ := r.lstOf (l := l) S rfl
        exact sort_list hu I rs S q1 r1 ho p
      · exact p.elim
    · exact p.elim
  · exact p.elim
end
end TB
set_option Elab.async false
set_option linter.all false
set_option maxRecDepth 100000
set_option maxHeartbeats 4000000
/-! TN: enumerate of lists, tuples, texts -/
namespace L2
open PySem PySem.Spec PyProof.Rows
theorem meets_enumT {v : Value} {o : Obj} {H : Heap → Prop} (B : Begins v o H) :
    Meets (Builtin.«enumerate.__new__» ⟨[.type "enumerate", v], []⟩) (fun _ R s => H s.heap ∧
      R (.ok (.ret (.ref (s.heap.push o).objs.size))) { s with heap := (s.heap.push o).push { cls := .type "enumerate", data := .fields #[.none, .bool false, .ref s.heap.objs.size, rawInt 0, .none, .none] } }) :=
  .of_wp fun prog w A R s h => by
    obtain ⟨hp, g, d, tk, os⟩ := s; obtain ⟨h1, h⟩ := h
    have hsub := sub_enumerate
    have q1 : ∀ {A' : Around} {E : Value → Shared → Prop} {Q : Value → Shared → Prop}, Q (.ref hp.objs.size) ⟨hp.push o, g, d, tk, os⟩ → wpAny (model prog w) A' (pyIter v) Q E ⟨hp, g, d, tk, os⟩ :=
      fun q => B.iter prog w _ _ ⟨hp, g, d, tk, os⟩ _ h1 q
    wp_walk using q1
    refine wpAny_stack_any fun st => wpAny_pure ?_
    split
    · rename_i c _ _ _ _ _
      cases (c == Value.type "enumerate")
      · wp_walk using q1
        exact ⟨_, rfl, h⟩
      · wp_walk using q1
        exact ⟨_, rfl, h⟩
    · wp_walk using q1
      exact ⟨_, rfl, h⟩
section
variable {prog : Program} {w : World} {A : Around} {E : Value → Shared → Prop} {s : Shared}
theorem enum_begins0 {v : Value} {o : Obj} {H : Heap → Prop} {Q : Value → Shared → Prop} (B : Begins v o H) (h1 : H s.heap)
    (h : ∀ h', IsEnum h' (s.heap.objs.size + 1) s.heap.objs.size 0 .none → h'.get? s.heap.objs.size = some o → h'.objs.size = s.heap.objs.size + 2 →
      (∀ b o, s.heap.get? b = some o → h'.get? b = some o) → Q (.ref (s.heap.objs.size + 1)) { s with heap := h' }) :
    wpAny (model prog w) A (call (.type "enumerate") [v]) Q E s := by
  refine callType_new F.called_enumerate (by decide) (F.typeCall_enumerate_1 _) (F.newCall_enumerate_1 _) (fun obj => F.args_object_init_2 obj _) F.entry_enumerate_new
    (meets_enumT B) ⟨h1, ?_⟩
  have hz : (s.heap.push o).objs.size = s.heap.objs.size + 1 := Heap.size_push ..
  show _ ∧ _
  rw [hz]
  have he : IsEnum ((s.heap.push o).push { cls := .type "enumerate", data := .fields #[.none, .bool false, .ref s.heap.objs.size, rawInt 0, .none, .none] }) (s.heap.objs.size + 1) s.heap.objs.size 0 .none := by
    have := Heap.get?_push_size (s.heap.push o) (o := { cls := .type "enumerate", data := .fields #[.none, .bool false, .ref s.heap.objs.size, rawInt 0, .none, .none] }) rfl
    rw [hz] at this; exact this
  refine ⟨⟨_, he, rfl⟩, h _ he (Heap.get?_push_of_some _ (Heap.get?_push_size _ B.free)) (by rw [Heap.size_push, hz]) fun b o x => Heap.get?_push_of_some _ (Heap.get?_push_of_some _ x)⟩
end
/-- the tuple at a, each item in a new pair -/
def IteT (K : PySem.W.Frag) (a : Addr) : It :=
  ⟨fun i H => ∃ (xs : List V) (x : V), SqT K H a xs ∧ xs[i]? = some x, fun i H v H' => ∃ T x, v = .ref T ∧ H T = none ∧ H' = upd H T (.tup [.int (i : Nat), x]) ∧ ∀ xs, SqT K H a xs → xs[i]? = some x, fun i H => ∃ xs : List V, SqT K H a xs ∧ xs.length = i⟩
theorem tup_inj {X : Cx} {pins : List (Addr × Obj)} {σ : St} {H : Hp} {s : Shared} {a : Addr} {xs ys : List V} (I : Inv X pins σ H s) (h : SqT X.K H a xs) (h' : SqT X.K H a ys) : xs.length = ys.length := by
  obtain ⟨its, r, p, _⟩ := I.tuple h
  obtain ⟨its', r', p', _⟩ := I.tuple h'
  obtain ⟨o, ho, hc, n, hd⟩ := p
  obtain ⟨o', ho', hc', n', hd'⟩ := p'
  rw [ho] at ho'; cases ho'
  rw [hd] at hd'
  have : its = its' := by
    injection hd' with e1 e2
    simpa using e1
  subst this
  rw [r.length, r'.length]
theorem turn_enumT {P : Program} {w : World} {K : PySem.W.Frag} {elts : List Expr} {kk : Nat} {tpos : Pos} (a e it : Addr) :
    Turn P w K (.Tuple elts kk tpos) (IteT K a) [e, it] e (fun i h => (∃ old, IsEnum h e it ((i : Nat) : Int) old) ∧ h.IsTupleIter it a i ∧ e ≠ it ∧ a ≠ it ∧ a ≠ e) where
  mem := by simp
  obj := fun i h st b hb => by
    obtain ⟨⟨old, he⟩, ⟨o, ho, hc, hd⟩, _⟩ := st
    have e' : b = e ∨ b = it := by simpa using hb
    rcases e' with z | z
    · rw [z]; exact ⟨_, he, fun v q => nomatch q⟩
    · rw [z]; exact ⟨o, ho, fun v q => by rw [hd] at q; cases q⟩
  keep := fun i h h' st k => let ⟨⟨old, he⟩, hi, hne⟩ := st; ⟨⟨old, k e (by simp) _ he⟩, hi.at fun o q => k it (by simp) o q, hne⟩
  item := by
    intro X hP hw hK hc i pins s σ H E I hf st hg
    subst hP hw hK
    obtain ⟨⟨old, he⟩, hit, hne, hai, hae⟩ := st
    obtain ⟨xs, x, hq, hx⟩ := hg
    obtain ⟨its, rv, p, hz⟩ := I.tuple hq
    obtain ⟨u, hu, ru⟩ := rv.get hx
    have hel : e < s.heap.objs.size := Heap.lt_size he
    have hil : it < s.heap.objs.size := by obtain ⟨_, q, _⟩ := hit; exact Heap.lt_size q
    have hlt : i < its.toArray.size := by simpa using (List.getElem?_eq_some_iff.mp hu).1
    have D := Draws.tuple (prog := X.prog) (w := X.w) (A := X.A.in1) (by rw [show X.A.in1.handled = X.A.handled from rfl]; exact I.ok.hd hc) it a hai its.toArray
    refine wpAny_pyNext_enum_itemD D he ⟨hit, p⟩ hlt hne (by simp; exact ⟨hne, fun z => hae z.symm⟩) fun y h' tk hP ho hst' hT hsz hk => ?_
    have ey : y = u := by
      have : its.toArray[i]? = some y := hP
      have h2 : its[i]? = some y := by simpa using this
      rw [hu] at h2; cases h2; rfl
    subst ey
    refine ⟨_, rfl, wpAny_letOwnedTupleGo_enum (s := { s with heap := h', toks := tk + 1 }) ho fun h'' he' sb => ?_⟩
    have hT2 : h''.get? s.heap.objs.size = some { cls := .type "tuple", data := .seq #[.int i tk, y] } := (sb.2 _ (Nat.ne_of_gt hel)).trans hT
    have new : ObjOk X.prog X.w (upd H s.heap.objs.size (.tup [.int (i : Nat), x])) h'' s.heap.objs.size (.tup [.int (i : Nat), x]) :=
      ⟨by show 2 ≤ sizeLine; decide, [.int i tk, y], .cons ⟨_, rfl⟩ (.cons ru .nil), ⟨_, hT2, rfl, _, rfl⟩⟩
    have I1 : Inv X pins σ (upd H s.heap.objs.size (.tup [.int (i : Nat), x])) { s with heap := h'', toks := tk + 1 } :=
      I.turnedNew (ch := [e, it]) (fun b ob hb q => (sb.2 b (fun z => hb (by simp [z]))).trans (hk b ob (fun z => hb (by simp [z])) (fun z => hb (by simp [z])) q)) hf (Nat.le_refl _) new
    refine ⟨.ref s.heap.objs.size, _, I1, rfl, ⟨_, x, rfl, I.hok.fresh (Nat.le_refl _), rfl, fun ys hy => ?_⟩, ⟨⟨y, ?_⟩, hst'.1.at fun o q => (sb.2 it (Ne.symm hne)).trans q, hne, hai, hae⟩, fun b hb => ?_⟩
    · rw [I.tuple_inj hy hq]; exact hx
    · have e1 : ((i + 1 : Nat) : Int) = (i : Int) + 1 := by omega
      rw [e1]; exact he'
    · have hb' : b < s.heap.objs.size := by
        have e' : b = e ∨ b = it := by simpa using hb
        rcases e' with z | z
        · rw [z]; exact hel
        · rw [z]; exact hil
      rw [upd_ne (Nat.ne_of_lt hb')]
      exact (hf b hb).1
  done := by
    intro X hP hw hK hc i pins s σ H E I hf st hg
    subst hP hw hK
    obtain ⟨⟨old, he⟩, hit, hne, hai, hae⟩ := st
    obtain ⟨xs, hq, hx⟩ := hg
    obtain ⟨its, rv, p, hz⟩ := I.tuple hq
    obtain ⟨f0, f1, f2, f3, f4, f5⟩ := hf it (by simp)
    have hl := rv.length
    have D := Draws.tuple (prog := X.prog) (w := X.w) (A := X.A.in1) (by rw [show X.A.in1.handled = X.A.handled from rfl]; exact I.ok.hd hc) it a hai its.toArray
    have hi : its.toArray.size = i := by simp; omega
    refine wpAny_pyNext_enum_endD D he (by rw [hi]; exact ⟨hit, p⟩) fun h' eb => ⟨rfl, I.turned (t' := s.toks) (fun b o hb q => eb b o hb q) f0 f1 f3 f4 f5⟩
  self := fun A i s Q E st h => let ⟨⟨_, he⟩, _⟩ := st; wpAny_pyIter_enum he h
def iEnumA (K : PySem.W.Frag) (ta : TA) : TI := fun σ H R => ta σ H fun vs H1 => ∃ a, vs = [.ref a] ∧ ((∃ xs, SqL K H1 a xs ∧ R (Ite K a) H1) ∨ ∃ xs, SqT K H1 a xs ∧ R (IteT K a) H1)
theorem pi_enumA {X : Cx} {e : Expr} {ta : TA} {p pos tpos : Pos} {elts : List Expr} {kk : Nat} (hg : Gl X "enumerate") (hm : X.mg "enumerate" = none) (ha : PA X [e] ta) (hs : starEach [e] X.env = [(false, eval e X.env)]) :
    PI X (.Tuple elts kk tpos) (.Call (.Name "enumerate" p) [e] [] pos) (iEnumA X.K ta) := by
  refine ⟨fun pins s σ H R I h => ?_⟩
  refine Call_ (ld_blt I hg hm boot_enumerate (PyProof.Rows.callWith_type1 (thn (ha.run pos pins s σ H _ I h) fun us s1 ⟨vs, H1, I1, r1, q1⟩ => ?_) hs rfl))
  obtain ⟨a, ex, q1⟩ := q1
  subst ex
  cases r1 with
  | cons r rr =>
    cases rr
    cases r
    rcases q1 with ⟨xs, hq, q⟩ | ⟨xs, hq, q⟩
    · obtain ⟨its, rv, p', hz⟩ := I1.list hq
      refine call_enumerate_list p'.isList fun h' he hit hsz hk => wpAny_pyIter_enum he ?_
      have I2 : Inv X pins σ H1 { s1 with heap := h' } := I1.kept (t' := s1.toks) hk
      refine ⟨s1.heap.objs.size + 1, [s1.heap.objs.size + 1, s1.heap.objs.size], _, _, H1, rfl, I2, turn_enum a (s1.heap.objs.size + 1) s1.heap.objs.size, ⟨⟨.none, he⟩, hit, Nat.succ_ne_self _⟩, fun b hb => ?_, q⟩
      have e' : b = s1.heap.objs.size + 1 ∨ b = s1.heap.objs.size := by simpa using hb
      have hle : s1.heap.objs.size ≤ b := by
        rcases e' with z | z
        · rw [z]; exact Nat.le_add_right _ _
        · rw [z]; exact Nat.le_refl _
      exact I1.fpOk hle (I1.hok.fresh hle)
    · obtain ⟨its, rv, p', hz⟩ := I1.tuple hq
      have hal : a < s1.heap.objs.size := by obtain ⟨_, q, _⟩ := p'; exact Heap.lt_size q
      refine enum_begins0 (begins_tuple a its.toArray) p' fun h' he hit hsz hk => wpAny_pyIter_enum he ?_
      have I2 : Inv X pins σ H1 { s1 with heap := h' } := I1.kept (t' := s1.toks) hk
      refine ⟨s1.heap.objs.size + 1, [s1.heap.objs.size + 1, s1.heap.objs.size], _, _, H1, rfl, I2, turn_enumT a (s1.heap.objs.size + 1) s1.heap.objs.size, ⟨⟨.none, he⟩, ⟨_, hit, rfl, rfl⟩, Nat.succ_ne_self _, Nat.ne_of_lt hal, Nat.ne_of_lt (Nat.lt_succ_of_lt hal)⟩, fun b hb => ?_, q⟩
      have e' : b = s1.heap.objs.size + 1 ∨ b = s1.heap.objs.size := by simpa using hb
      have hle : s1.heap.objs.size ≤ b := by
        rcases e' with z | z
        · rw [z]; exact Nat.le_add_right _ _
        · rw [z]; exact Nat.le_refl _
      exact I1.fpOk hle (I1.hok.fresh hle)
end L2
namespace TB
open PySem PySem.Spec L2
section
variable {X : Cx} {gf : Str → Option Addr} {K : PySem.W.Frag} {H : Hp} {al be : List Addr} {st : Sto} {d e : D} {v u : V} {l : List D} {W : WX}
def enumD (l : List D) : List D := l.zipIdx.map fun p => .tup [.int (p.2 : Nat), p.1]
theorem enumD_get {i : Nat} (h : (enumD l)[i]? = some d) : ∃ x, l[i]? = some x ∧ d = .tup [.int (i : Nat), x] := by
  unfold enumD at h
  rw [List.getElem?_map, List.getElem?_zipIdx] at h
  cases hl : l[i]? with
  | none => rw [hl] at h; cases h
  | some x => rw [hl] at h; simp at h; exact ⟨x, rfl, h.symm⟩
theorem enumD_len : (enumD l).length = l.length := by simp [enumD]
theorem js_enumT {a : Addr} {vs : List V} (h : SqT K H a vs) (r : RVs K gf H al be l vs) : JS K gf be H al ⟨enumD l, none⟩ (IteT K a) := by
  intro i be1 H1 al1 st1 g S1 _
  have hq : SqT K H1 a vs := g.tup _ _ h
  refine ⟨fun d hd => ?_, fun hi => ?_⟩
  · obtain ⟨x, hx, rfl⟩ := enumD_get hd
    obtain ⟨v, hv, rv⟩ := r.get hx
    refine ⟨⟨vs, v, hq, hv⟩, fun w H2 yl => ?_⟩
    obtain ⟨T, x', rfl, hT, rfl, f1⟩ := yl
    have e1 := f1 vs hq
    rw [hv] at e1
    cases e1
    have e := Ext.new (o := .tup [.int (i : Nat), v]) hT S1
    exact ⟨S1.new (o := .tup [.int (i : Nat), v]) hT, e, .tup (.inl (.inl upd_same)) (.cons (.int _) (.cons ((rv.gr g).gr e.toGr) .nil)) (by show 2 ≤ sizeLine; decide)⟩
  · have hi : (enumD l).length = i := hi
    rw [enumD_len] at hi
    exact ⟨vs, hq, by rw [← r.length]; exact hi⟩
theorem js_enumF {a : Addr} {vs : List V} (h : FrL H al be a vs) (r : RVs K gf H al be l vs) : JS K gf be H al ⟨enumD l, none⟩ (Ite K a) := by
  intro i be1 H1 al1 st1 g S1 _
  have hq : SqL K H1 a vs := (g.frl _ _ h).sq
  refine ⟨fun d hd => ?_, fun hi => ?_⟩
  · obtain ⟨x, hx, rfl⟩ := enumD_get hd
    obtain ⟨v, hv, rv⟩ := r.get hx
    refine ⟨⟨vs, v, hq, hv⟩, fun w H2 yl => ?_⟩
    obtain ⟨T, x', rfl, hT, rfl, f1⟩ := yl
    have e1 := f1 vs hq
    rw [hv] at e1
    cases e1
    have e := Ext.new (o := .tup [.int (i : Nat), v]) hT S1
    exact ⟨S1.new (o := .tup [.int (i : Nat), v]) hT, e, .tup (.inl (.inl upd_same)) (.cons (.int _) (.cons ((rv.gr g).gr e.toGr) .nil)) (by show 2 ≤ sizeLine; decide)⟩
  · have hi : (enumD l).length = i := hi
    rw [enumD_len] at hi
    exact ⟨vs, hq, by rw [← r.length]; exact Nat.le_of_eq hi⟩
theorem js_enumR {n : Nat} {a : Addr} (ha : al[n]? = some a) : JS K gf be H al ⟨enumD l, some (n, .lst l)⟩ (Ite K a) := by
  intro i be1 H1 al1 st1 g S1 hk
  obtain ⟨de, q⟩ := g.pre
  have ha1 : al1[n]? = some a := by rw [q, List.getElem?_append_left (List.getElem?_eq_some_iff.mp ha).1]; exact ha
  obtain ⟨o, h2, ro⟩ := S1.at' ha1
  have hk' : st1[n]? = some (.lst l) := hk
  rw [hk'] at h2; cases h2
  obtain ⟨vs, hw, r, z⟩ := ro
  have hq : SqL K H1 a vs := .of hw
  refine ⟨fun d hd => ?_, fun hi => ?_⟩
  · obtain ⟨x, hx, rfl⟩ := enumD_get hd
    obtain ⟨v, hv, rv⟩ := r.get hx
    refine ⟨⟨vs, v, hq, hv⟩, fun w H2 yl => ?_⟩
    obtain ⟨T, x', rfl, hT, rfl, f1⟩ := yl
    have e1 := f1 vs hq
    rw [hv] at e1
    cases e1
    have e := Ext.new (o := .tup [.int (i : Nat), v]) hT S1
    exact ⟨S1.new (o := .tup [.int (i : Nat), v]) hT, e, .tup (.inl (.inl upd_same)) (.cons (.int _) (.cons (rv.gr e.toGr) .nil)) (by show 2 ≤ sizeLine; decide)⟩
  · have hi : (enumD l).length = i := hi
    rw [enumD_len] at hi
    exact ⟨vs, hq, by rw [← r.length]; exact Nat.le_of_eq hi⟩
def srcE (st : Sto) : D → Option Src
  | .lst l => some ⟨enumD l, none⟩
  | .ref n => (match st[n]? with
    | some (.lst l) => some ⟨enumD l, some (n, .lst l)⟩
    | _ => none)
  | .tup l => some ⟨enumD l, none⟩
  | _ => none
def iEnumM (ma : Lo → M D) : Lo → M Src := fun ρ => M.bind (ma ρ) fun d => M.look fun st => srcE st d
theorem si_enum {e : Expr} {ma : Lo → M D} {p pos tpos : Pos} {elts : List Expr} {kk : Nat} (hg : Gl X "enumerate") (hm : X.mg "enumerate" = none) (ha : SE X gf W e ma) (hs : starEach [e] X.env = [(false, eval e X.env)]) :
    SI X gf W (.Tuple elts kk tpos) (.Call (.Name "enumerate" p) [e] [] pos) (iEnumM ma) := by
  refine imI (pi_enumA hg hm (pa_cons ha pa_nil hs) hs) fun σ H R h => ?_
  obtain ⟨al, be, ρ, st, S, L, p⟩ := h
  refine ⟨al, be, ρ, st, S, L, p.bind.mono fun d st1 H1 al1 S1 e1 p1 v rv => ?_⟩
  obtain ⟨src, e, q⟩ := p1.look S1
  unfold srcE at e
  split at e
  · cases e
    cases rv with
    | lst h1 h2 z => exact ⟨_, rfl, .inl ⟨_, h1.sq, q (by rw [enumD_len]; exact z) _ (js_enumF h1 h2)⟩⟩
  · split at e
    · rename_i n l hk
      cases e
      obtain ⟨a, vs, rfl, ha, q1, r1, z1⟩ := rv.lstRef S1 hk
      exact ⟨_, rfl, .inl ⟨_, .of q1, q (by rw [enumD_len]; exact z1) _ (js_enumR ha)⟩⟩
    · cases e
  · cases e
    obtain ⟨a, vs, rfl, q1, r1, z1⟩ := rv.tup_inv
    exact ⟨_, rfl, .inr ⟨_, q1, q (by rw [enumD_len]; exact z1) _ (js_enumT q1 r1)⟩⟩
  · cases e
end
end TB
set_option Elab.async false
set_option linter.all false
set_option maxRecDepth 100000
set_option maxHeartbeats 4000000
/-! TG: min, max of two; methods of texts -/
namespace TB
open PySem PySem.Spec L2
section
variable {X : Cx} {gf : Str → Option Addr} {K : PySem.W.Frag} {H : Hp} {al be : List Addr} {st : Sto} {d e : D} {v u : V} {l : List D} {W : WX}
def gMin2 : List D → M D
  | [.int i, .int j] => M.pure (.int (if j < i then j else i))
  | _ => M.stuck
def gMax2 : List D → M D
  | [.int i, .int j] => M.pure (.int (if j > i then j else i))
  | _ => M.stuck
theorem cs_min2 (hc : X.calm = true) : CallS X gf (.builtin "min") gMin2 := by
  intro pins s σ H xs us Q I rs q
  obtain ⟨al, be, st, ds, W, S, rd, p⟩ := q
  unfold gMin2 at p
  split at p
  · obtain ⟨v, u, rfl, r1, r2⟩ := rd.two
    cases r1.int_inv; cases r2.int_inv
    exact call_min2 hc pins s σ H _ us Q I rs ⟨_, _, rfl, p.ok S _ (.int _)⟩
  · exact p.elim
theorem cs_max2 (hc : X.calm = true) : CallS X gf (.builtin "max") gMax2 := by
  intro pins s σ H xs us Q I rs q
  obtain ⟨al, be, st, ds, W, S, rd, p⟩ := q
  unfold gMax2 at p
  split at p
  · obtain ⟨v, u, rfl, r1, r2⟩ := rd.two
    cases r1.int_inv; cases r2.int_inv
    exact call_max2 hc pins s σ H _ us Q I rs ⟨_, _, rfl, p.ok S _ (.int _)⟩
  · exact p.elim
def gFind : D → List D → M D
  | .str a, [.str b] => M.pure (.int (Txt.find a b))
  | _, _ => M.stuck
def gRfind : D → List D → M D
  | .str a, [.str b] => M.pure (.int (Txt.rfind a b))
  | _, _ => M.stuck
theorem ms_find : MtS X gf "str.find" gFind := by
  intro pins s σ H x xs v us Q I rx rs q
  obtain ⟨al, be, st, d, ds, W, S, rd, rds, p⟩ := q
  unfold gFind at p
  split at p
  · obtain ⟨y, rfl, ry⟩ := rds.one
    obtain ⟨rfl, _⟩ := rd.str_inv
    obtain ⟨rfl, _⟩ := ry.str_inv
    exact mt_find pins s σ H _ _ v us Q I rx rs ⟨_, _, rfl, rfl, p.ok S _ (.int _)⟩
  · exact p.elim
theorem ms_rfind : MtS X gf "str.rfind" gRfind := by
  intro pins s σ H x xs v us Q I rx rs q
  obtain ⟨al, be, st, d, ds, W, S, rd, rds, p⟩ := q
  unfold gRfind at p
  split at p
  · obtain ⟨y, rfl, ry⟩ := rds.one
    obtain ⟨rfl, _⟩ := rd.str_inv
    obtain ⟨rfl, _⟩ := ry.str_inv
    exact mt_rfind pins s σ H _ _ v us Q I rx rs ⟨_, _, rfl, rfl, p.ok S _ (.int _)⟩
  · exact p.elim
def strsL : List D → Option (List Str)
  | [] => some []
  | .str x :: r => (strsL r).map (x :: ·)
  | _ :: _ => none
theorem RVs.strs : ∀ {ds : List D} {vs : List V} {ns : List Str}, RVs K gf H al be ds vs → strsL ds = some ns → vs = ns.map V.str ∧ ∀ x ∈ ns, PyData.strOk x = true ∧ x.length ≤ sizeLine
  | _, _, _, .nil, h => by cases h; exact ⟨rfl, fun _ h => by cases h⟩
  | _, _, _, .cons (d := d) h hs, e => by
    cases d <;> simp only [strsL] at e <;> try (cases e; done)
    obtain ⟨ns, e1, rfl⟩ := Option.map_eq_some_iff.mp e
    obtain ⟨rfl, h1, h2⟩ := h.str_inv
    obtain ⟨q1, q2⟩ := RVs.strs hs e1
    refine ⟨by rw [List.map_cons, q1], fun x hx => ?_⟩
    rcases List.mem_cons.mp hx with rfl | hx
    · exact ⟨h1, h2⟩
    · exact q2 x hx
/-- a list or a tuple -/
def seqT (st : Sto) : D → Option (List D)
  | .tup l => some l
  | d => lstOf st d
theorem RV.seqT (S : SR K gf H al be st) (r : RV K gf H al be d v) (h : TB.seqT st d = some l) : ∃ a vs, v = .ref a ∧ (SqL K H a vs ∨ SqT K H a vs) ∧ RVs K gf H al be l vs := by
  unfold TB.seqT at h
  split at h
  · cases h
    obtain ⟨a, vs, rfl, q1, r1, z1⟩ := r.tup_inv
    exact ⟨a, vs, rfl, .inr q1, r1⟩
  · obtain ⟨a, vs, rfl, q1, r1, z1⟩ := r.lstOf S h
    exact ⟨a, vs, rfl, .inl (.of q1), r1⟩
def joinOk (a : Str) (ys : List Str) : Bool := decide ((ys.map (·.length)).sum + ys.length * a.length ≤ 16777216) && PyData.strOk (Txt.join a ys) && decide ((Txt.join a ys).length ≤ sizeLine)
def gJoin : D → List D → M D
  | .str a, [d] => fun st => (match (seqT st d).bind strsL with
    | some ys => if joinOk a ys then some (.ok (.str (Txt.join a ys)), st) else none
    | none => none)
  | _, _ => M.stuck
theorem ms_join : MtS X gf "str.join" gJoin := by
  intro pins s σ H x xs v us Q I rx rs q
  obtain ⟨al, be, st, d, ds, W, S, rd, rds, p⟩ := q
  unfold gJoin at p
  split at p
  · obtain ⟨y, rfl, ry⟩ := rds.one
    obtain ⟨rfl, _⟩ := rd.str_inv
    split at p
    · rename_i ys hy
      split at p
      · rename_i ho
        unfold joinOk at ho
        simp only [Bool.and_eq_true, decide_eq_true_eq] at ho
        obtain ⟨l, h1, h2⟩ := Option.bind_eq_some_iff.mp hy
        obtain ⟨a, vs, rfl, q1, r1⟩ := ry.seqT S h1
        obtain ⟨rfl, _⟩ := r1.strs h2
        exact mt_join pins s σ H _ _ v us Q I rx rs ⟨_, a, ys, rfl, rfl, q1, ho.1.1, p.ok S _ (.str ho.1.2 ho.2)⟩
      · exact p.elim
    · exact p.elim
  · exact p.elim
def gSplit (m : Bool) : D → List D → M D
  | .str a, [.str b] => fun st => if ((b.length == 0) = false ∧ a.length + 2 ≤ sizeLine) ∧ ((Txt.split a b).all fun x => PyData.strOk x && decide (x.length ≤ sizeLine)) = true then mkL m ((Txt.split a b).map .str) st else none
  | _, _ => M.stuck
theorem rvs_strs : ∀ {ns : List Str}, (∀ x ∈ ns, PyData.strOk x = true ∧ x.length ≤ sizeLine) → RVs K gf H al be (ns.map D.str) (ns.map V.str)
  | [], _ => .nil
  | x :: ns, h => .cons (.str (h x List.mem_cons_self).1 (h x List.mem_cons_self).2) (rvs_strs fun y hy => h y (List.mem_cons_of_mem _ hy))
theorem ms_split {m : Bool} : MtS X gf "str.split" (gSplit m) := by
  intro pins s σ H x xs v us Q I rx rs q
  obtain ⟨al, be, st, d, ds, W, S, rd, rds, p⟩ := q
  unfold gSplit at p
  split at p
  · obtain ⟨y, rfl, ry⟩ := rds.one
    obtain ⟨rfl, _⟩ := rd.str_inv
    obtain ⟨rfl, _⟩ := ry.str_inv
    split at p
    · rename_i ho
      refine mt_split pins s σ H _ _ v us Q I rx rs ⟨_, _, rfl, rfl, ho.1.1, ho.1.2, fun q hq => ?_⟩
      refine mkL_ok S (rvs_strs fun x hx => ?_) hq p
      have := List.all_eq_true.mp ho.2 x hx
      simp only [Bool.and_eq_true, decide_eq_true_eq] at this
      exact this
    · exact p.elim
  · exact p.elim
end
end TB
set_option Elab.async false
set_option linter.all false
set_option maxRecDepth 100000
set_option maxHeartbeats 4000000
/-! TV: sorted(numbers, reverse=True) -/
namespace TB
open PySem PySem.Spec L2
section
variable {X : Cx} {gf : Str → Option Addr} {W : WX}
def falling (ns : List Int) : List Int := ns.mergeSort fun a b => decide (b ≤ a)
theorem falling_eq {ns ns' : List Int} (hp : ns'.Perm ns) (hs : ns'.Pairwise (· ≥ ·)) : ns' = falling ns := by
  refine PySem.W.Srt.the_of_perm _ (fun a b c h1 h2 => ?_) (fun a b => ?_) (fun a b h1 h2 => ?_) hp (hs.imp fun h => decide_eq_true h)
  · exact decide_eq_true (Int.le_trans (of_decide_eq_true h2) (of_decide_eq_true h1))
  · rcases Int.le_total b a with z | z
    · simp [z]
    · simp [z]
  · exact Int.le_antisymm (of_decide_eq_true h2) (of_decide_eq_true h1)
def srevT : D → M D
  | .lst l => fun st => (match intsOf l with
    | some ns => mkL false ((falling ns).map .int) st
    | none => none)
  | _ => M.stuck
def mSrev (m : Lo → M D) : Lo → M D := fun ρ => M.bind (m ρ) srevT
theorem rvs_ints {K : PySem.W.Frag} {gf : Str → Option Addr} {H : Hp} {al be : List Addr} : ∀ ns : List Int, RVs K gf H al be (ns.map D.int) (ns.map V.int)
  | [] => .nil
  | i :: ns => .cons (.int i) (rvs_ints ns)
theorem s_srev {a : Expr} {ma : Lo → M D} {j : Nat} {p p2 p3 pos : Pos} (hg : Gl X "sorted") (hm : X.mg "sorted" = none) (ha : SE X gf W a ma)
    (na : starEach [a] X.env = (false, eval a X.env) :: starEach [] X.env) : SE X gf W (.Call (.Name "sorted" p) [a] [⟨some "reverse", .Constant (.bool true) j p2, p3⟩] pos) (mSrev ma) := by
  have hA : PA X [a] (tCons (rdE X.K gf W ma) tNil) := pa_cons ha pa_nil na
  refine imE (pe_callBK (cr_sortedRev (X := X) (b := true)) hg hm (by decide +kernel) hA (pk_cons pe_bl pk_nil) (by decide) (by decide) (by rw [na]; rfl) (by rw [na]; rfl)) fun σ H Q h => ?_
  · obtain ⟨al, be, ρ, st, S, L, p⟩ := h
    refine ⟨al, be, ρ, st, S, L, p.bind.mono fun d st1 H1 al1 S1 e1 p1 v rv => ?_⟩
    show rSortedKw X.K true [V.bl true] [v] [V.bl true] H1 Q
    unfold srevT at p1
    split at p1
    · rename_i l
      split at p1
      · rename_i ns hns
        obtain ⟨a, vs, rfl, q1, r1, z1⟩ := rv.lstOf (l := l) S1 rfl
        have := r1.ints hns
        subst this
        refine ⟨a, ns, rfl, rfl, .of q1, fun ns' q hp ho hq => ?_⟩
        have e : ns' = falling ns := falling_eq hp ho
        rw [← e] at p1
        exact mkL_ok S1 (rvs_ints ns') hq p1
      · exact p1.elim
    · exact p1.elim
end
end TB
set_option Elab.async false
set_option linter.all false
set_option maxRecDepth 100000
set_option maxHeartbeats 4000000
/-! TX: xs.index(text) of a list of texts -/
namespace TB
open PySem PySem.Spec L2
section
variable {X : Cx} {gf : Str → Option Addr} {K : PySem.W.Frag} {H : Hp} {al be : List Addr} {st : Sto} {d e : D} {v u : V} {l : List D} {W : WX}
/-- the first place of a text -/
def place (x : Str) : List Str → Option Nat
  | [] => none
  | y :: l => if y = x then some 0 else (place x l).map (· + 1)
theorem place_at {x : Str} : ∀ {l : List Str} {j : Nat}, place x l = some j → l[j]? = some x ∧ ∀ m < j, ∀ z, l[m]? = some z → z ≠ x
  | [], j, h => by simp [place] at h
  | y :: l, j, h => by
    unfold place at h
    split at h
    · rename_i e
      cases h
      exact ⟨by simp [e], fun m hm => by omega⟩
    · rename_i hne
      obtain ⟨k, hk, rfl⟩ := Option.map_eq_some_iff.mp h
      obtain ⟨h1, h2⟩ := place_at hk
      refine ⟨by simpa using h1, fun m hm z hz => ?_⟩
      cases m with
      | zero => simp at hz; subst hz; exact hne
      | succ m => exact h2 m (by omega) z (by simpa using hz)
def gIndex (d : D) (l : List D) : M D := fun st => match lstOf st d, l with
  | some ys, [.str x] => (match strsL ys with
    | some ns => (match place x ns with
      | some j => some (.ok (.int (j : Nat)), st)
      | none => none)
    | none => none)
  | _, _ => none
theorem ms_index : MtS X gf "list.index" gIndex := by
  intro pins s σ H x xs v us Q I rx rs q
  obtain ⟨al, be, st, d, ds, W, S, rd, rds, p⟩ := q
  unfold gIndex at p
  split at p
  · rename_i ys z hl
    obtain ⟨y, rfl, ry⟩ := rds.one
    obtain ⟨rfl, _⟩ := ry.str_inv
    split at p
    · rename_i ns hns
      split at p
      · rename_i j hj
        obtain ⟨a, vs, rfl, q1, r1, z1⟩ := rd.lstOf S hl
        obtain ⟨rfl, _⟩ := r1.strs hns
        obtain ⟨h1, h2⟩ := place_at hj
        refine mt_index pins s σ H _ _ v us Q I rx rs ⟨a, ns.map V.str, .str z, j, .str z, rfl, rfl, .of q1, rfl, flat_strs ns, by rw [List.getElem?_map, h1]; rfl, by simp [eqV], fun m z' hm hz' => ?_, p.ok S _ (.int _)⟩
        rw [List.getElem?_map] at hz'
        obtain ⟨w, hw, rfl⟩ := Option.map_eq_some_iff.mp hz'
        have := h2 m hm w hw
        simp [eqV, this]
      · exact p.elim
    · exact p.elim
  · exact p.elim
def gTindex (d : D) (l : List D) : M D := fun st => match d, l with
  | .tup ys, [.str x] => (match strsL ys with
    | some ns => (match place x ns with
      | some j => some (.ok (.int (j : Nat)), st)
      | none => none)
    | none => none)
  | _, _ => none
theorem ms_tindex : MtS X gf "tuple.index" gTindex := by
  intro pins s σ H x xs v us Q I rx rs q
  obtain ⟨al, be, st, d, ds, W, S, rd, rds, p⟩ := q
  unfold gTindex at p
  split at p
  · rename_i ys z
    obtain ⟨y, rfl, ry⟩ := rds.one
    obtain ⟨rfl, _⟩ := ry.str_inv
    split at p
    · rename_i ns hns
      split at p
      · rename_i j hj
        obtain ⟨a, vs, rfl, q1, r1, z1⟩ := rd.tup_inv
        obtain ⟨rfl, _⟩ := r1.strs hns
        obtain ⟨h1, h2⟩ := place_at hj
        exact mt_tup_index pins s σ H _ _ v us Q I rx rs ⟨a, ns, z, j, rfl, rfl, q1, h1, fun m hm hz => h2 m hm z hz rfl, p.ok S _ (.int _)⟩
      · exact p.elim
    · exact p.elim
  · exact p.elim
end
end TB
set_option Elab.async false
set_option linter.all false
set_option maxRecDepth 100000
set_option maxHeartbeats 4000000
/-! TY: raise X(), try .. except X: name = text, return None -/
namespace TB
open PySem PySem.Spec L2
section
variable {X : Cx} {gf : Str → Option Addr} {K : PySem.W.Frag} {H : Hp} {al be : List Addr} {st : Sto} {d e : D} {v u : V} {l : List D} {W : WX}
/-- X(), X an own exception class without own __init__ -/
theorem pmk_own0 {C : Addr} {bmB : List Value} {B newId initId : String} {x : Str} {p pos : Pos} (F : ExcBaseFacts B newId initId bmB) (q : PySem.W.excIn X.K C bmB newId = true) (gC : X.mg x = some (.ref C)) (kC : PySem.W.keepIn X.K (.ref C) = true) (r : Raises X (.ref C)) (hg : Gl X x)
    (hdb : (x == ("__debug__" : Str)) = false) : PMk X (.Call (.Name x p) [] [] pos) (fun _ H Q => Q (.ref C) none H) := by
  intro pins s σ H Q I h
  refine wpAny_Call_Name_kw (ld_glob I hg gC ?_ hdb)
  refine PySem.W.callWith_K0 I.kIn kC ?_
  show wpAny _ _ (call (.ref C) []) _ _ _
  obtain ⟨bm, N, nm, qn, bs, hdct, sn, sub, ab, col, dd, k0, k1, k2, k3, k5, mN, hC, hN, hni, T⟩ := exc_obj I.kIn q
  refine wpAny_call_exc_subT F T hC hN hni (fun h' e hm => ?_) (Nat.zero_le _)
  exact L2.mk_of I hm r h (I.hok.gone hm.new)
def sRaise (c : Str) : MS := fun ρ st => some (.ex c ρ, st)
theorem ss_raise {c : Str} {C : Addr} {e : Expr} {pos : Pos} (hc : X.calm = true) (tk : Takes X W) (he : PMk X e (fun _ H Q => Q (.ref C) none H)) (hg : gf c = some C) : SS X gf W (.Raise (some e) none pos) (sRaise c) := by
  refine imS (ps_raise hc tk he) fun D σ H ⟨al, be, ρ, st, S, L, p⟩ => ?_
  obtain ⟨C', h1, h2⟩ := p H al σ S Ext.refl L
  rw [hg] at h1
  cases h1
  exact h2
/-- what an except clause does -/
inductive Hd where
  | set (i : Nat) (x : Str) | non
def Hd.out : Hd → Lo → Out
  | .set i x, ρ => .nx (ρ.set i (some (.str x)))
  | .non, _ => .rt .non
def sHd (h : Hd) : MS := fun ρ st => some (h.out ρ, st)
def lkH (c : Str) : List (Str × Hd) → Option Hd
  | [] => none
  | (x, h) :: r => if c = x then some h else lkH c r
def sTry (known : List Str) (b : MS) (hs : List (Str × Hd)) : MS := fun ρ st => match b ρ st with
  | some (.ex c ρ1, st1) => if c ∈ known then (match lkH c hs with
    | some h => some (h.out ρ1, st1)
    | none => some (.ex c ρ1, st1)) else none
  | r => r
/-- the suite of a clause, in any context -/
def HdIs (Y : Cx) : Hd → List Stmt → Prop
  | .set i x, s => ∃ y k p1 p2 p3, s = [.Assign [.Name y p1] (.Constant (.str x) k p2) p3] ∧ Y.N.Nodup ∧ Y.N[i]? = some y ∧ Y.env.scope.names.lookup y = some .local ∧ PyData.strOk x = true ∧ x.length ≤ sizeLine
  | .non, s => ∃ k p1 p2, s = [.Return (some (.Constant .none k p1)) p2]
def W00 : WX := fun _ _ _ _ => False
theorem hd_ok {Y : Cx} {h : Hd} {s : List Stmt} (hi : HdIs Y h s) : PSs Y s (rdS Y.K gf W00 (sHd h)) := by
  cases h with
  | set i x =>
    obtain ⟨y, k, p1, p2, p3, rfl, hN, hy, hl, h1, h2⟩ := hi
    refine imSs (pss_one (ps_set hN hy (.inl hl) (pe_str (x := x) (j := k) (pos := p2)) (by rfl) (.inr hl))) fun D σ H ⟨al, be, ρ, st, S, L, p⟩ => ?_
    exact p H al _ S Ext.refl (L.set (.str h1 h2))
  | non =>
    obtain ⟨k, p1, p2, rfl⟩ := hi
    refine imSs (pss_one (ps_ret pe_non)) fun D σ H ⟨al, be, ρ, st, S, L, p⟩ => ?_
    exact p H al _ S Ext.refl .non
/-- an exception class of the text -/
structure EOk (K : PySem.W.Frag) (mg : Str → Option Value) (gf : Str → Option Addr) (x : Str) (C : Addr) : Prop where
  gf : gf x = some C
  mg : mg x = some (.ref C)
  ex : PySem.W.excIn K C [.type "ValueError", .type "Exception", .type "BaseException", .type "object"] "ValueError.__new__" = true
  kp : PySem.W.keepIn K (.ref C) = true
  r1 : PySem.W.subIn K (.ref C) (.type "BaseException") = some true
  r2 : PySem.W.typeIn K (.ref C) = some (.type "type")
theorem EOk.pmk {x : Str} {C : Addr} {p pos : Pos} (h : EOk X.K X.mg gf x C) (hg : Gl X x) (hdb : (x == ("__debug__" : Str)) = false) : PMk X (.Call (.Name x p) [] [] pos) (fun _ H Q => Q (.ref C) none H) :=
  pmk_own0 PySem.F.excBase_ValueError h.ex h.mg h.kp (raises_own h.r1 h.r2) hg hdb
/-- the clauses of a try -/
inductive HsOk (X : Cx) (gf : Str → Option Addr) (known : List Str) : List ExceptHandler → List (Str × Hd) → List (Value × (Addr → Value → Option Addr → TS)) → Prop
  | nil : HsOk X gf known [] [] []
  | cons {x : Str} {C : Addr} {h : Hd} {b₀ : Stmt} {suite : List Stmt} {np pos' : Pos} {hds : List ExceptHandler} {hs : List (Str × Hd)} {l : List (Value × (Addr → Value → Option Addr → TS))} (hxk : x ∈ known) (e : EOk X.K X.mg gf x C) (hg : Gl X x) (hdb : (x == ("__debug__" : Str)) = false) (hi : HdIs X h (b₀ :: suite)) (r : HsOk X gf known hds hs l) :
      HsOk X gf known (.ExceptHandler (some (.Name x np)) none (b₀ :: suite) pos' :: hds) ((x, h) :: hs) ((.ref C, fun _ _ _ => rdS X.K gf W00 (sHd h)) :: l)
theorem HsOk.hds {known : List Str} {hds : List ExceptHandler} {hs : List (Str × Hd)} {l : List (Value × (Addr → Value → Option Addr → TS))} (h : HsOk X gf known hds hs l) : HdsOk X hds l := by
  induction h with
  | nil => exact .nil
  | @cons x C h b₀ suite np pos' hds hs l hxk e hg hdb hi r ih =>
    refine .cons ⟨hg, hdb, .inl e.mg⟩ (fun a oe cls d pn _ _ => ?_) ih
    exact hd_ok (Y := X.suite a ((a, oe) :: pn)) (by
      cases h with
      | set i x => exact hi
      | non => exact hi)
theorem wMany_of {known : List Str} {c : Str} {C : Addr} {D : Ends} {σ1 : St} {H1 : Hp} {ρ1 : Lo} {st1 : Sto} {al1 : List Addr} {hds : List ExceptHandler} {hs : List (Str × Hd)} {l : List (Value × (Addr → Value → Option Addr → TS))} (h : HsOk X gf known hds hs l)
    (hx : ∀ x ∈ known, ∀ C', gf x = some C' → PySem.W.exmOne X.K (.ref C) (.ref C') = some (decide (c = x)))
    (S1 : SR X.K gf H1 al1 be st1) (L1 : RS X.K gf H1 al1 be ρ1 σ1)
    (p : PostO X.K gf be W H1 al1 D (match lkH c hs with
      | some h => some (h.out ρ1, st1)
      | none => some (.ex c ρ1, st1))) (hgc : gf c = some C) : wMany X.K W D l (.ref C) none σ1 H1 := by
  induction h with
  | nil =>
    obtain ⟨C', h1, h2⟩ := p H1 al1 σ1 S1 Ext.refl L1
    rw [hgc] at h1
    cases h1
    exact h2
  | @cons x C' h b₀ suite np pos' hds hs l hxk e hg hdb hi r ih =>
    refine ⟨decide (c = x), hx x hxk C' e.gf, fun hb a _ => ?_, fun hb => ?_⟩
    · have hcx : c = x := of_decide_eq_true hb
      simp only [lkH, if_pos hcx] at p
      refine ⟨al1, be, ρ1, st1, S1, L1, ?_⟩
      cases h with
      | set i x => exact p
      | non => exact p
    · have hcx : ¬ c = x := of_decide_eq_false hb
      simp only [lkH, if_neg hcx] at p
      exact ih p
theorem ss_try {known : List Str} {body : List Stmt} {m : MS} {h₀ : ExceptHandler} {hds : List ExceptHandler} {hs : List (Str × Hd)} {l : List (Value × (Addr → Value → Option Addr → TS))} {pos : Pos} (hst : X.stack = X.env :: X.outer) (hf : X.env.frame = some X.env.locals) (tk : Takes X W)
    (hb : ∀ (W : WX) (pn : List (Addr × Obj)) (xe : Value → Shared → Prop), Takes (X.tr pn xe) W → PassesOwn (model X.prog X.w) X.A X.env xe → SSs (X.tr pn xe) gf W body m)
    (hh : HsOk X gf known (h₀ :: hds) hs l) (hk : ∀ c ∈ known, ∃ C, EOk X.K X.mg gf c C) (hx : ∀ c ∈ known, ∀ x ∈ known, ∀ C C', gf c = some C → gf x = some C' → PySem.W.exmOne X.K (.ref C) (.ref C') = some (decide (c = x))) :
    SS X gf W (.Try body (h₀ :: hds) [] [] pos) (sTry known m hs) := by
  refine imS (ps_try_many (tb := fun W => rdS X.K gf W m) hst hf tk hb hh.hds) fun D σ H ⟨al, be, ρ, st, S, L, p⟩ => ⟨al, be, ρ, st, S, L, ?_⟩
  unfold sTry at p
  match h : m ρ st with
  | none => rw [h] at p; exact p
  | some (.nx ρ1, st1) => rw [h] at p; exact p
  | some (.bk ρ1, st1) => rw [h] at p; exact p
  | some (.ct ρ1, st1) => rw [h] at p; exact p
  | some (.rt d, st1) => rw [h] at p; exact p
  | some (.ex c ρ1, st1) =>
    rw [h] at p
    dsimp only at p
    split at p
    · rename_i hc
      obtain ⟨C, hC⟩ := hk c hc
      intro H1 al1 σ1 S1 e1 L1
      exact ⟨C, hC.gf, wMany_of hh (fun x hxk C' e => hx c hc x hxk C C' hC.gf e) S1 L1 (PostO.ext p e1) hC.gf⟩
    · exact p.elim
end
end TB
set_option Elab.async false
set_option linter.all false
set_option maxRecDepth 100000
set_option maxHeartbeats 4000000
/-! TB8: the small language, what it does, and the look that finds it in the text -/
namespace TB
open PySem PySem.Spec L2

inductive Blt where
  | len | all | any | tuple | list (m : Bool) | int | str | sum | dict | sorted (m : Bool)
inductive Blt2 where
  | min | max
inductive Bm where
  | append | extend | pop | get | dpop | find | rfind | join | split (m : Bool) | index
inductive Bop where
  | add (m : Bool) | sub | mod | div | mul (m : Bool)
inductive Ty where
  | str | int | bool | tuple | list
mutual
inductive E where
  | bad | var (i : Nat) | non | bl (b : Bool) | int (i : Int) | str (x : Str) | glob (x : Str)
  | band (es : Es) | bor (es : Es) | not (a : E)
  | bin (op : Bop) (a b : E) | neg (a : E) | cmp (op : CmpOp) (a b : E) | chain (o1 o2 : CmpOp) (a b c : E) | ite (c a b : E)
  | tup (es : Es) | lst (m : Bool) (es : Es)
  | call (f : Str) (n : Nat) (es : Es) | blt (f : Blt) (a : E) | isi (T : Ty) (a : E) | bm (f : Bm) (o : E) (es : Es)
  | idx (o i : E) | slc (m : Bool) (o : E) (lo hi : Eo) | rev (m : Bool) (o : E)
  | lc (m : Bool) (own : List (Str × Nat)) (t : Tg) (it : It) (c : Eo) (e : E)
  | dsp (ks : List Key) (es : Es) | dnew | gix (x : Str) (e : E) | lenset (e : E) | srev (e : E)
  | fld (c f : Str) (o : E) | meth (c m q : Str) (n : Nat) (o : E) (es : Es) | mk (c q : Str) (n : Nat) (es : Es) | blt2 (f : Blt2) (a b : E)
inductive Es where
  | nil | cons (e : E) (es : Es)
inductive Eo where
  | none | some (e : E)
inductive It where
  | seq (e : E) | rng1 (e : E) | zip (a b : E) | enum (e : E)
end
mutual
inductive S where
  | bad | pass | brk | cont | expr (e : E) | ret (e : E) | asg (t : Tg) (e : E) | par (i j : Nat) (a b : E) | par3 (i j l : Nat) (a b c : E) | dput (o k v : E) | fput (c f : Str) (o v : E)
  | ife (c : E) (a b : Ss) | for_ (t : Tg) (it : It) (b : Ss) | whl (n : Nat) (c : E) (b : Ss)
  | raise (c : Str) | try_ (known : List Str) (b : Ss) (hs : List (Str × Hd))
inductive Ss where
  | nil | cons (s : S) (ss : Ss)
end

/-! ### what it does -/
/-- the name of an entry of a written dict -/
def gkey (x z : Str) : Str := ⟨(x.cps.toList ++ 0 :: z.cps.toList).toArray⟩
def mGix (g : Str → Option D) (m : Lo → M D) : Lo → M D := fun ρ => M.bind (m ρ) fun d => M.look fun _ => match d with
  | .str z => g z
  | _ => none
def Bop.g : Bop → D → D → M D
  | .add m => opAdd m
  | .sub => opI fSub
  | .mod => opI fMod
  | .div => opI fDiv
  | .mul m => opMul m
def cmpG : CmpOp → D → D → M D
  | .Eq => opEq
  | .NotEq => opNe
  | .Lt => opLt
  | .LtE => opLe
  | .Gt => opGt
  | .GtE => opGe
  | .Is => opIs
  | .IsNot => opIsNot
  | .In => opIn
  | .NotIn => opNotIn
noncomputable def Blt.g : Blt → List D → M D
  | .len => gLen
  | .all => gAll
  | .any => gAny
  | .tuple => gTuple
  | .list m => gListD m
  | .int => gInt
  | .str => gStr
  | .sum => gSum
  | .dict => gDictD
  | .sorted m => gSorted m
def Blt2.g : Blt2 → List D → M D
  | .min => gMin2
  | .max => gMax2
def Bm.g : Bm → D → List D → M D
  | .append => gAppend
  | .extend => gExtend
  | .pop => gPop
  | .get => gGet
  | .dpop => gDpop
  | .find => gFind
  | .rfind => gRfind
  | .join => gJoin
  | .split m => gSplit m
  | .index => gIndex
def Bm.T : Bm → BT
  | .append => .list
  | .extend => .list
  | .pop => .list
  | .get => .dict
  | .dpop => .dict
  | .find => .str
  | .rfind => .str
  | .join => .str
  | .split _ => .str
  | .index => .list
/-- how many arguments -/
def Bm.ar : Bm → Nat → Bool
  | .get, n => n == 2
  | .dpop, n => n == 1
  | _, _ => true
def Ty.nm : Ty → String
  | .str => "str"
  | .int => "int"
  | .bool => "bool"
  | .tuple => "tuple"
  | .list => "list"

section
variable (cf : Str → List D → M D) (gc : Str → Option D)
mutual
noncomputable def ev : E → Lo → M D
  | .bad => fun _ => M.stuck
  | .var i => mVar i
  | .non => mC .non
  | .bl b => mC (.bl b)
  | .int i => mC (.int i)
  | .str x => mC (.str x)
  | .glob x => fun _ => M.look fun _ => gc x
  | .band es => evAnd es
  | .bor es => evOr es
  | .not a => mNot (ev a)
  | .bin op a b => mOp op.g (ev a) (ev b)
  | .neg a => mNeg (ev a)
  | .cmp op a b => mOp (cmpG op) (ev a) (ev b)
  | .chain o1 o2 a b c => mChain (cmpG o1) (cmpG o2) (ev a) (ev b) (ev c)
  | .ite c a b => mIte (tst c) (ev a) (ev b)
  | .tup es => mTup (evs es)
  | .lst m es => mLst m (evs es)
  | .call f n es => mCall n (cf f) (evs es)
  | .blt f a => mApp f.g (aCons (ev a) aNil)
  | .isi T a => mIsi T.nm (ev a)
  | .bm f o es => mBM f.T f.g (ev o) (evs es)
  | .idx o i => mOp opIdx (ev o) (ev i)
  | .slc m o lo hi => mSlc m (ev o) (evo lo) (evo hi)
  | .rev m o => mRev m (ev o)
  | .lc m own t it c e => mLc m t (own.map (·.2)) (evi it) (evc c) (ev e)
  | .dsp ks es => mDsp ks (evs es)
  | .dnew => mDnew
  | .gix x e => mGix (fun z => gc (gkey x z)) (ev e)
  | .lenset e => mLenSet (ev e)
  | .srev e => mSrev (ev e)
  | .fld c f o => mFld c f (ev o)
  | .meth c m q n o es => mMeth c m n (cf q) (ev o) (evs es)
  | .mk c q n es => mMk c n (cf q) (evs es)
  | .blt2 f a b => mApp f.g (aCons (ev a) (aCons (ev b) aNil))
noncomputable def tst : E → Lo → M Bool
  | .not a => tNotM (tst a)
  | .band es => tstAnd es
  | .bor es => tstOr es
  | .cmp op a b => mB (mOp (cmpG op) (ev a) (ev b))
  | .chain o1 o2 a b c => mB (mChain (cmpG o1) (cmpG o2) (ev a) (ev b) (ev c))
  | .ite _ _ _ => fun _ => M.stuck
  | .bad => fun _ => M.stuck
  | .var i => mTru (mVar i)
  | .non => mTru (mC .non)
  | .bl b => mTru (mC (.bl b))
  | .int i => mTru (mC (.int i))
  | .str x => mTru (mC (.str x))
  | .glob x => mTru (fun _ => M.look fun _ => gc x)
  | .bin op a b => mTru (mOp op.g (ev a) (ev b))
  | .neg a => mTru (mNeg (ev a))
  | .tup es => mTru (mTup (evs es))
  | .lst m es => mTru (mLst m (evs es))
  | .call f n es => mTru (mCall n (cf f) (evs es))
  | .blt f a => mTru (mApp f.g (aCons (ev a) aNil))
  | .isi T a => mTru (mIsi T.nm (ev a))
  | .bm f o es => mTru (mBM f.T f.g (ev o) (evs es))
  | .idx o i => mTru (mOp opIdx (ev o) (ev i))
  | .slc m o lo hi => mTru (mSlc m (ev o) (evo lo) (evo hi))
  | .rev m o => mTru (mRev m (ev o))
  | .lc m own t it c e => mTru (mLc m t (own.map (·.2)) (evi it) (evc c) (ev e))
  | .dsp ks es => mTru (mDsp ks (evs es))
  | .dnew => mTru mDnew
  | .gix x e => mTru (mGix (fun z => gc (gkey x z)) (ev e))
  | .lenset e => mTru (mLenSet (ev e))
  | .srev e => mTru (mSrev (ev e))
  | .fld c f o => mTru (mFld c f (ev o))
  | .meth c m q n o es => mTru (mMeth c m n (cf q) (ev o) (evs es))
  | .mk _ _ _ _ => fun _ => M.stuck
  | .blt2 f a b => mTru (mApp f.g (aCons (ev a) (aCons (ev b) aNil)))
noncomputable def evs : Es → Lo → M (List D)
  | .nil => aNil
  | .cons e es => aCons (ev e) (evs es)
noncomputable def evAnd : Es → Lo → M D
  | .nil => fun _ => M.stuck
  | .cons e .nil => ev e
  | .cons e es => mAnd (ev e) (evAnd es)
noncomputable def evOr : Es → Lo → M D
  | .nil => fun _ => M.stuck
  | .cons e .nil => ev e
  | .cons e es => mOr (ev e) (evOr es)
noncomputable def tstAnd : Es → Lo → M Bool
  | .nil => fun _ => M.stuck
  | .cons e .nil => tst e
  | .cons e es => tAndM (tst e) (tstAnd es)
noncomputable def tstOr : Es → Lo → M Bool
  | .nil => fun _ => M.stuck
  | .cons e .nil => tst e
  | .cons e es => tOrM (tst e) (tstOr es)
noncomputable def evo : Eo → Lo → M (Option Int)
  | .none => oNone
  | .some e => oSome (ev e)
noncomputable def evc : Eo → Lo → M Bool
  | .none => fun _ => M.pure true
  | .some e => tst e
noncomputable def evi : It → Lo → M Src
  | .seq e => iSeq (ev e)
  | .rng1 e => TB.iRng1 (ev e)
  | .zip a b => iZip (aCons (ev a) (aCons (ev b) aNil))
  | .enum e => iEnumM (ev e)
end
mutual
noncomputable def exS : S → MS
  | .bad => fun _ _ => none
  | .pass => sNil
  | .brk => sBreak
  | .cont => sCont
  | .expr e => sExpr (ev cf gc e)
  | .ret e => sRet (ev cf gc e)
  | .asg t e => sAsg t (ev cf gc e)
  | .par i j a b => sPar i j (ev cf gc a) (ev cf gc b)
  | .par3 i j l a b c => sPar3 i j l (ev cf gc a) (ev cf gc b) (ev cf gc c)
  | .dput o k v => sDput (ev cf gc o) (ev cf gc k) (ev cf gc v)
  | .fput c f o v => sFput c f (ev cf gc o) (ev cf gc v)
  | .ife c a b => sIf (tst cf gc c) (exSs a) (exSs b)
  | .for_ t it b => sFor t (evi cf gc it) (exSs b)
  | .whl n c b => sWhile n (tst cf gc c) (exSs b)
  | .raise c => sRaise c
  | .try_ known b hs => sTry known (exSs b) hs
noncomputable def exSs : Ss → MS
  | .nil => sNil
  | .cons s ss => sSeq (exS s) (exSs ss)
end
end

/-! ### the look -/
structure Ck where
  N : List Str
  fns : List (Str × Nat)
  mts : List (Str × Str × Str × Nat)
  mks : List (Str × Str × Nat)
  flds : List (Str × Str)
  free : List Str
  con : List Str
  sc : Scope
  top : Bool
  exc : List Str
def notStar : Expr → Bool
  | .Starred _ _ => false
  | _ => true
def notComp : Expr → Bool
  | .ListComp _ _ _ _ => false
  | .SetComp _ _ _ _ => false
  | .DictComp _ _ _ _ _ => false
  | _ => true
def notSet : Expr → Bool
  | .Set _ _ _ => false
  | _ => true
def notSlice : Expr → Bool
  | .Slice _ _ _ _ => false
  | _ => true
def notSuper : Expr → Bool
  | .Call (.Name _ _) [] [] _ => false
  | _ => true
def kindB (sc : Scope) (x : Str) (k : NameKind) : Bool := decide (sc.names.lookup x = some k)
def okName (x : Str) : Bool := !(x == ("__debug__" : Str)) && !(x == ("__classdict__" : Str)) && decide (x ≠ "__name__")
def visB (sc : Scope) (x : Str) : Bool := kindB sc x .local || kindB sc x .cell || kindB sc x .free
def Ck.glob (c : Ck) (x : Str) : Bool := kindB c.sc x .globalImplicit && okName x
def Ck.blt (c : Ck) (x : Str) : Bool := c.glob x && decide (x ∈ c.free)
def locB (c : Ck) (x : Str) : Bool := kindB c.sc x .local || (c.top && kindB c.sc x .cell)
def Blt.name : Blt → Str
  | .len => "len"
  | .all => "all"
  | .any => "any"
  | .tuple => "tuple"
  | .list _ => "list"
  | .int => "int"
  | .str => "str"
  | .sum => "sum"
  | .dict => "dict"
  | .sorted _ => "sorted"
def Blt2.name : Blt2 → Str
  | .min => "min"
  | .max => "max"
def Bm.name : Bm → Str
  | .append => "append"
  | .extend => "extend"
  | .pop => "pop"
  | .get => "get"
  | .dpop => "pop"
  | .find => "find"
  | .rfind => "rfind"
  | .join => "join"
  | .split _ => "split"
  | .index => "index"
def Ty.name : Ty → Str
  | .str => "str"
  | .int => "int"
  | .bool => "bool"
  | .tuple => "tuple"
  | .list => "list"
def Bop.op : Bop → Operator
  | .add _ => .Add
  | .sub => .Sub
  | .mod => .Mod
  | .div => .FloorDiv
  | .mul _ => .Mult
def namesB (c : Ck) : List Expr → List Nat → Bool
  | [], [] => true
  | .Name x _ :: es, i :: is => decide (c.N[i]? = some x) && locB c x && namesB c es is
  | _, _ => false
def nestB (c : Ck) (i : Nat) (js : List Nat) : Expr → Bool
  | .Tuple [.Name x _, .Tuple es _ _] _ _ => decide (c.N[i]? = some x) && locB c x && namesB c es js
  | _ => false
theorem nestB_of {c : Ck} {i : Nat} {js : List Nat} {e : Expr} (h : nestB c i js e = true) : ∃ x p es k2 p2 k pos, e = .Tuple [.Name x p, .Tuple es k2 p2] k pos ∧ c.N[i]? = some x ∧ locB c x = true ∧ namesB c es js = true := by
  unfold nestB at h
  split at h
  · simp only [Bool.and_eq_true] at h
    exact ⟨_, _, _, _, _, _, _, rfl, of_decide_eq_true h.1.1, h.1.2, h.2⟩
  · cases h
def tgB (c : Ck) : Tg → Expr → Bool
  | .one i, .Name x _ => decide (c.N[i]? = some x) && locB c x
  | .tup is, .Tuple es _ _ => namesB c es is
  | .nest i js, e => nestB c i js e
  | _, _ => false
def tgSlots (t : Tg) : List Nat := t.slots
def isRevS : Expr → Bool
  | .Slice none none (some (.UnaryOp .USub (.Constant (.int i) _ _) _)) _ => decide (i = 1)
  | _ => false
theorem isRevS_of {s : Expr} (h : isRevS s = true) : ∃ k p1 p2 p3, s = .Slice none none (some (.UnaryOp .USub (.Constant (.int 1) k p1) p2)) p3 := by
  unfold isRevS at h
  split at h
  · cases of_decide_eq_true h; exact ⟨_, _, _, _, rfl⟩
  · cases h
def asLenSet : Expr → Option Expr
  | .Call (.Name x _) [.Call (.Name y _) [a] [] _] [] _ => if x = ("len" : Str) ∧ y = ("set" : Str) then some a else none
  | _ => none
theorem asLenSet_of {e v : Expr} (h : asLenSet e = some v) : ∃ p p2 q pos, e = .Call (.Name "len" p) [.Call (.Name "set" p2) [v] [] q] [] pos := by
  unfold asLenSet at h
  split at h
  · split at h
    · rename_i hc
      obtain ⟨rfl, rfl⟩ := hc
      cases h
      exact ⟨_, _, _, _, rfl⟩
    · cases h
  · cases h
def asSrev : Expr → Option Expr
  | .Call (.Name x _) [a] [⟨some k, .Constant (.bool b) _ _, _⟩] _ => if x = ("sorted" : Str) ∧ k = ("reverse" : Str) ∧ b = true then some a else none
  | _ => none
theorem asSrev_of {e v : Expr} (h : asSrev e = some v) : ∃ p j p2 p3 pos, e = .Call (.Name "sorted" p) [v] [⟨some "reverse", .Constant (.bool true) j p2, p3⟩] pos := by
  unfold asSrev at h
  split at h
  · split at h
    · rename_i hc
      obtain ⟨rfl, rfl, rfl⟩ := hc
      cases h
      exact ⟨_, _, _, _, _, rfl⟩
    · cases h
  · cases h
def gixB (c : Ck) (x : Str) : Expr → Bool
  | .Name y _ => decide (x = y) && c.glob x && decide (gkey x "" ∈ c.con)
  | _ => false
theorem gixB_of {c : Ck} {x : Str} {e : Expr} (h : gixB c x e = true) : ∃ p, e = .Name x p ∧ c.glob x = true ∧ gkey x "" ∈ c.con := by
  cases e <;> simp only [gixB, Bool.false_eq_true] at h
  simp only [Bool.and_eq_true, decide_eq_true_eq] at h
  obtain ⟨⟨rfl, h2⟩, h3⟩ := h
  exact ⟨_, rfl, h2, h3⟩
mutual
def ckE (c : Ck) : E → Expr → Bool
  | .bad, e => notStar e
  | .var i, .Name x _ => decide (c.N[i]? = some x) && visB c.sc x && okName x
  | .non, .Constant .none _ _ => true
  | .bl b, .Constant (.bool b') _ _ => b == b'
  | .int i, .Constant (.int j) _ _ => decide (i = j)
  | .str x, .Constant (.str y) _ _ => decide (x = y) && PyData.strOk x && decide (x.length ≤ sizeLine)
  | .glob x, .Name y _ => decide (x = y) && c.glob x && decide (x ∈ c.con)
  | .band es, .BoolOp .And vs _ => ckEs c es vs && !vs.isEmpty
  | .bor es, .BoolOp .Or vs _ => ckEs c es vs && !vs.isEmpty
  | .not a, .UnaryOp .Not e _ => ckE c a e
  | .bin op a b, .BinOp l op' r _ => decide (op.op = op') && ckE c a l && ckE c b r
  | .neg a, .UnaryOp .USub e _ => ckE c a e
  | .cmp op a b, .Compare l [op'] [r] _ => decide (op = op') && ckE c a l && ckE c b r && notSet r
  | .chain o1 o2 a b d, .Compare l [p1, p2] [r, r2] _ => decide (o1 = p1) && decide (o2 = p2) && ckE c a l && ckE c b r && ckE c d r2 && notSet r2
  | .ite q a b, .IfExp e1 e2 e3 _ => ckE c q e1 && ckE c a e2 && ckE c b e3
  | .tup es, .Tuple vs _ _ => ckEs c es vs
  | .lst _ es, .List vs _ => ckEs c es vs
  | .call f n es, .Call (.Name x _) (v :: vs) [] _ => decide (f = x) && c.glob x && decide ((f, n) ∈ c.fns) && ckEs c es (v :: vs)
  | .blt f a, .Call (.Name x _) [v] [] _ => decide (f.name = x) && c.blt x && ckE c a v
  | .isi T a, .Call (.Name x _) [v, .Name t _] [] _ => decide (x = ("isinstance" : Str)) && c.blt x && decide (T.name = t) && c.blt t && ckE c a v
  | .bm f o es, .Call (.Attribute e m ap) vs [] cp => decide (f.name = m) && (ap.endLine == cp.line) && notSuper e && decide (vs.length < 20) && ckE c o e && ckEs c es vs && f.ar vs.length
  | .idx o i, .Subscript e s _ => notSlice s && ckE c o e && ckE c i s
  | .slc _ o lo hi, .Subscript e (.Slice l h none _) _ => ckE c o e && ckO c lo l && ckO c hi h
  | .rev _ o, .Subscript e s _ => isRevS s && ckE c o e
  | .lc _ own t it cd el, .ListComp e [⟨tg, iter, ifs, as⟩] scope _ => decide (as = 0) && blkC c.N c.sc scope own && (tgSlots t).all (fun i => decide (i ∈ own.map (·.2))) && notSet iter && ckI c it tg iter &&
      tgB { c with sc := relS scope c.sc, top := false } t tg && ckC { c with sc := relS scope c.sc, top := false } cd ifs && ckE { c with sc := relS scope c.sc, top := false } el e
  | .dsp ks es, .Dict keys vals _ => ckPs c es ks keys vals && !keys.isEmpty && decide (keys.length ≤ 15)
  | .dnew, .Dict keys vals _ => keys.isEmpty && vals.isEmpty
  | .gix x e, .Subscript v s _ => gixB c x v && notSlice s && ckE c e s
  | .lenset a, e => (match asLenSet e with
    | some v => c.blt "len" && c.blt "set" && ckE c a v
    | none => false)
  | .srev a, e => (match asSrev e with
    | some v => c.blt "sorted" && ckE c a v
    | none => false)
  | .fld cl f o, .Attribute e g _ => decide (f = g) && decide ((cl, f) ∈ c.flds) && notSuper e && ckE c o e
  | .meth cl m q n o es, .Call (.Attribute e m' ap) vs [] cp => decide (m = m') && decide ((cl, m, q, n) ∈ c.mts) && (ap.endLine == cp.line) && decide (vs.length < 20) && notSuper e && ckE c o e && ckEs c es vs
  | .mk cl q n es, .Call (.Name x _) (v :: vs) [] _ => decide (cl = x) && c.glob x && decide ((cl, q, n) ∈ c.mks) && ckEs c es (v :: vs)
  | .blt2 f a b, .Call (.Name x _) [v, w] [] _ => decide (f.name = x) && c.blt x && ckE c a v && ckE c b w && notStar v && notStar w
  | _, _ => false
def ckPs (c : Ck) : Es → List Key → List (Option Expr) → List Expr → Bool
  | .nil, [], [], [] => true
  | .cons e es, k :: ks, some ke :: keys, v :: vs => kE k ke && ckE c e v && ckPs c es ks keys vs
  | _, _, _, _ => false
def ckEs (c : Ck) : Es → List Expr → Bool
  | .nil, [] => true
  | .cons e es, v :: vs => ckE c e v && notStar v && ckEs c es vs
  | _, _ => false
def ckO (c : Ck) : Eo → Option Expr → Bool
  | .none, none => true
  | .some e, some v => ckE c e v
  | _, _ => false
def ckC (c : Ck) : Eo → List Expr → Bool
  | .none, [] => true
  | .some e, [v] => ckE c e v
  | _, _ => false
def ckI (c : Ck) : It → Expr → Expr → Bool
  | .seq e, _, v => ckE c e v
  | .rng1 e, _, .Call (.Name x _) [v] [] _ => decide (x = ("range" : Str)) && c.blt x && ckE c e v && notStar v
  | .zip a b, .Tuple _ _ _, .Call (.Name x _) [v, w] [] _ => decide (x = ("zip" : Str)) && c.blt x && ckE c a v && ckE c b w && notStar v && notStar w
  | .enum e, .Tuple _ _ _, .Call (.Name x _) [v] [] _ => decide (x = ("enumerate" : Str)) && c.blt x && ckE c e v && notStar v
  | _, _, _ => false
end
end TB
set_option Elab.async false
set_option linter.all false
set_option maxRecDepth 100000
set_option maxHeartbeats 4000000
/-! TB9: what the look finds does what the small language says: expressions -/
namespace TB
open PySem PySem.Spec L2

structure Ok (c : Ck) (X : Cx) (gf : Str → Option Addr) (W : WX) (k : Nat) (cf : Str → List D → M D) (gc : Str → Option D) : Prop where
  nN : X.N = c.N
  nd : c.N.Nodup
  sc : X.env.scope = c.sc
  calm : X.calm = true
  room : Room k X.A
  tk : Takes X W
  own : PassesOwn (model X.prog X.w) X.A X.env X.xe
  free : ∀ x, x ∈ c.free → X.mg x = none
  room1 : Room (k + 1) X.A
  fns : ∀ f n, (f, n) ∈ c.fns → FOk X gf k f n (cf f)
  mts : ∀ cl m q n, (cl, m, q, n) ∈ c.mts → MOk X gf k cl m n (cf q)
  mks : ∀ cl q n, (cl, q, n) ∈ c.mks → KOk X gf k cl n (cf q)
  flds : ∀ cl f, (cl, f) ∈ c.flds → ∃ C, gf cl = some C ∧ Cls X.K C ∧ NoAttr X.K C f
  con : ∀ x, x ∈ c.con → ∀ d, gc x = some d → ∃ v u, X.mg x = some u ∧ RelV v u ∧ ∀ H al be, RV X.K gf H al be d v
  fnt : c.top = true → ∀ x, X.fn x = true
  exc : ∀ x ∈ c.exc, ∃ C, EOk X.K X.mg gf x C
  exm : ∀ x ∈ c.exc, ∀ y ∈ c.exc, ∀ C C', gf x = some C → gf y = some C' → PySem.W.exmOne X.K (.ref C) (.ref C') = some (decide (x = y))
  dic : ∀ x, gkey x "" ∈ c.con → ∃ q, X.mg x = some (.ref q) ∧ ∀ z d, gc (gkey x z) = some d → ∃ v, KDct X.K X.w q z v ∧ ∀ H al be, RV X.K gf H al be d v

theorem band {a b : Bool} (h : (a && b) = true) : a = true ∧ b = true := Bool.and_eq_true_iff.mp h
section
variable {c : Ck} {X : Cx} {gf : Str → Option Addr} {W : WX} {k : Nat} {cf : Str → List D → M D} {gc : Str → Option D}
theorem Ok.units (o : Ok c X gf W k cf gc) : X.A.units + 66 < cLine := by have := o.room.un; omega
theorem Ok.kind (o : Ok c X gf W k cf gc) {x : Str} {kd : NameKind} (h : kindB c.sc x kd = true) : X.env.scope.names.lookup x = some kd := by rw [o.sc]; exact of_decide_eq_true h
theorem okName_of {x : Str} (h : okName x = true) : (x == ("__debug__" : Str)) = false ∧ (x == ("__classdict__" : Str)) = false ∧ x ≠ "__name__" := by
  unfold okName at h
  simp only [Bool.and_eq_true, Bool.not_eq_true', decide_eq_true_eq] at h
  exact ⟨h.1.1, h.1.2, h.2⟩
theorem Ok.vis (o : Ok c X gf W k cf gc) {x : Str} (h : visB c.sc x = true) : Vis X.env.scope x := by
  unfold visB at h
  simp only [Bool.or_eq_true] at h
  rcases h with (h | h) | h
  · exact .inl (o.kind h)
  · exact .inr (.inl (o.kind h))
  · exact .inr (.inr (o.kind h))
theorem Ok.glob (o : Ok c X gf W k cf gc) {x : Str} (h : c.glob x = true) : Gl X x ∧ (x == ("__debug__" : Str)) = false ∧ x ≠ "__name__" := by
  unfold Ck.glob at h
  obtain ⟨h1, h2⟩ := band h
  obtain ⟨a, b, d⟩ := okName_of h2
  exact ⟨o.kind h1, a, d⟩
theorem Ok.blt (o : Ok c X gf W k cf gc) {x : Str} (h : c.blt x = true) : Gl X x ∧ X.mg x = none ∧ (x == ("__debug__" : Str)) = false ∧ x ≠ "__name__" := by
  unfold Ck.blt at h
  obtain ⟨h1, h2⟩ := band h
  obtain ⟨a, b, d⟩ := o.glob h1
  exact ⟨a, o.free x (of_decide_eq_true h2), b, d⟩
theorem Ok.loc (o : Ok c X gf W k cf gc) {x : Str} (h : locB c x = true) : Loc X.env.scope x ∧ (X.fn x = true ∨ X.env.scope.names.lookup x = some .local) := by
  unfold locB at h
  simp only [Bool.or_eq_true, Bool.and_eq_true] at h
  rcases h with h | ⟨h1, h2⟩
  · exact ⟨.inl (o.kind h), .inr (o.kind h)⟩
  · exact ⟨.inr (o.kind h2), .inl (o.fnt h1 x)⟩
theorem Ok.blk (o : Ok c X gf W k cf gc) (s : Shared) (H : Hp) (scope : Scope) (cl : List (Str × Addr)) (C : Addr) (fp : List Addr) :
    Ok { c with sc := relS scope c.sc, top := false } (X.blk s H scope (compEnvC scope cl C X.env) fp) gf W0 k cf gc where
  nN := o.nN
  nd := o.nd
  sc := by rw [← o.sc]; rfl
  calm := o.calm
  room := o.room
  tk := takes0
  own := PassesOwn.never
  free := o.free
  room1 := o.room1
  fns := o.fns
  mts := o.mts
  mks := o.mks
  flds := o.flds
  con := o.con
  fnt := fun h => by cases h
  exc := o.exc
  exm := o.exm
  dic := o.dic
theorem star_of {e : Expr} {es : List Expr} {env : Env} (h : notStar e = true) : starEach (e :: es) env = (false, eval e env) :: starEach es env := by
  cases e <;> first | rfl | cases h
theorem fset_of {e : Expr} {env : Env} (h : notSet e = true) : ∀ x, foldedSetIterable e env x = pure x := by
  intro x
  cases e <;> first | rfl | cases h
theorem mark_of {e : Expr} {op : CmpOp} (h : notSet e = true) : behindInMarks op e = false := by
  cases e <;> first | rfl | cases h
theorem plainIx_of {e : Expr} (h : notSlice e = true) : PlainIx e := by
  intro o i
  cases e <;> first | rfl | cases h
theorem base_of {e : Expr} {m : Str} {env : Env} (h : notSuper e = true) : attributeBase e m env (eval e env) = eval e env := by
  cases e with
  | Call f args kws pos =>
    cases f with
    | Name x p =>
      cases args with
      | nil => cases kws with
        | nil => cases h
        | cons a b => rfl
      | cons a b => rfl
    | _ => rfl
  | _ => rfl
/-- all arguments are plain -/
theorem ckEs_plain : ∀ {es : Es} {vs : List Expr} {env : Env} {pos : Pos}, ckEs c es vs = true → (backTo pos (starEach vs env)).any (·.1) = false ∧ (backTo pos (starEach vs env)).all (fun x => !x.1) = true
  | .nil, [], _, _, _ => ⟨rfl, rfl⟩
  | .nil, _ :: _, _, _, h => by simp [ckEs] at h
  | .cons _ _, [], _, _, h => by simp [ckEs] at h
  | .cons e es, v :: vs, env, pos, h => by
    simp only [ckEs] at h
    obtain ⟨h1, h2⟩ := band h
    obtain ⟨h3, h4⟩ := band h1
    obtain ⟨i1, i2⟩ := ckEs_plain (env := env) (pos := pos) h2
    rw [star_of h4]
    refine ⟨?_, ?_⟩
    · show (false || (backTo pos (starEach vs env)).any (·.1)) = false
      rw [i1]; rfl
    · show (!false && (backTo pos (starEach vs env)).all (fun x => !x.1)) = true
      rw [i2]; rfl
theorem ckEs_head {es : Es} {v : Expr} {vs : List Expr} (h : ckEs c es (v :: vs) = true) : notStar v = true ∧ ∃ e es', es = .cons e es' ∧ ckE c e v = true ∧ ckEs c es' vs = true := by
  cases es with
  | nil => simp [ckEs] at h
  | cons e es =>
    simp only [ckEs] at h
    obtain ⟨h1, h2⟩ := band h
    obtain ⟨h3, h4⟩ := band h1
    exact ⟨h4, e, es, rfl, h3, h2⟩

theorem ckE_star {a : E} {e : Expr} (h : ckE c a e = true) : notStar e = true := by
  cases e <;> first | rfl | (cases a <;> simp [ckE, notStar, asLenSet, asSrev] at h)

/-! ### operators -/
theorem os_bop (op : Bop) : OpS X gf (binaryOp op.op) op.g := by
  cases op with
  | add m => exact os_add
  | sub => exact os_sub
  | mod => exact os_mod
  | div => exact os_div
  | mul m => exact os_mul
theorem os_cmp (hu : X.A.units + 66 < cLine) (op : CmpOp) : OpS X gf (compareOp op) (cmpG op) := by
  cases op with
  | Eq => exact os_eq (by omega)
  | NotEq => exact os_ne (by omega)
  | Lt => exact os_lt
  | LtE => exact os_le
  | Gt => exact os_gt
  | GtE => exact os_ge
  | Is => exact os_is
  | IsNot => exact os_isNot
  | In => exact os_in hu
  | NotIn => exact os_notIn hu
theorem s_bltin (o : Ok c X gf W k cf gc) (f : Blt) {v : Expr} {p pos : Pos} {m : Lo → M D} (hb : c.blt f.name = true) (hv : SE X gf W v m) (hs : notStar v = true) : SE X gf W (.Call (.Name f.name p) [v] [] pos) (mApp f.g (aCons m aNil)) := by
  obtain ⟨h1, h2, h3, h4⟩ := o.blt hb
  have ha : SA X gf W [v] (aCons m aNil) := sa_cons hv sa_nil (star_of hs)
  cases f with
  | len => exact s_blt cs_len h1 h2 (by decide +kernel) ha h4 h3 (star_of hs) rfl
  | all => exact s_blt (cs_all o.calm) h1 h2 (by decide +kernel) ha h4 h3 (star_of hs) rfl
  | any => exact s_blt (cs_any o.calm) h1 h2 (by decide +kernel) ha h4 h3 (star_of hs) rfl
  | tuple => exact s_ty cs_tuple h1 h2 (by decide +kernel) ha h4 h3 (star_of hs) rfl
  | list m => exact s_ty (cs_listD o.calm) h1 h2 (by show bootBuiltins "list" = some (.type "list"); decide +kernel) ha h4 h3 (star_of hs) rfl
  | int => exact s_ty cs_int h1 h2 (by decide +kernel) ha h4 h3 (star_of hs) rfl
  | str => exact s_ty cs_str h1 h2 (by decide +kernel) ha h4 h3 (star_of hs) rfl
  | sum => exact s_blt (cs_sum o.calm) h1 h2 (by decide +kernel) ha h4 h3 (star_of hs) rfl
  | dict => exact s_ty (cs_dictD o.calm) h1 h2 (by decide +kernel) ha h4 h3 (star_of hs) rfl
  | sorted m => exact s_blt (cs_sorted o.calm o.units) h1 h2 (by show bootBuiltins "sorted" = some (.builtin "sorted"); decide +kernel) ha h4 h3 (star_of hs) rfl
theorem s_bltin2 (o : Ok c X gf W k cf gc) (f : Blt2) {v w : Expr} {p pos : Pos} {m m2 : Lo → M D} (hb : c.blt f.name = true) (hv : SE X gf W v m) (hw : SE X gf W w m2) (hs : notStar v = true) (hs2 : notStar w = true) : SE X gf W (.Call (.Name f.name p) [v, w] [] pos) (mApp f.g (aCons m (aCons m2 aNil))) := by
  obtain ⟨h1, h2, h3, h4⟩ := o.blt hb
  have ha : SA X gf W [v, w] (aCons m (aCons m2 aNil)) := sa_cons hv (sa_cons hw sa_nil (star_of hs2)) (star_of hs)
  cases f with
  | min => exact s_blt (cs_min2 o.calm) h1 h2 (by decide +kernel) ha h4 h3 (star_of hs) (by rw [star_of hs2]; rfl)
  | max => exact s_blt (cs_max2 o.calm) h1 h2 (by decide +kernel) ha h4 h3 (star_of hs) (by rw [star_of hs2]; rfl)
theorem few_of {vs : List Expr} {cp : Pos} {env : Env} (h : (backTo cp (starEach vs env)).all (fun x => !x.1) = true) (hl : vs.length < 20) :
    ((backTo cp (starEach vs env)).all (fun x => !x.1) && (backToKw cp (keywordEach [] env)).all (fun x => x.1.isSome) && decide (vs.length + ([] : List Keyword).length + (if ([] : List Keyword).isEmpty then 0 else 1) < 30)) = true := by
  rw [h]
  show (true && true && decide (vs.length + 0 + 0 < 30)) = true
  simp; omega
/-- a method's call, as it is read -/
theorem meth_of {e : Expr} {m : Str} {ap cp : Pos} {vs : List Expr} {env : Env} (h : notSuper e = true) (hl : (ap.endLine == cp.line) = true) (hf : methodCallForm (vs.length + ([] : List Keyword).length) (backTo cp (starEach vs env)) (backToKw cp (keywordEach [] env)) = true) :
    eval (.Call (.Attribute e m ap) vs [] cp) env = (do
      let ov ← eval e env
      standAt ap.atName
      let (f, first) ← holding [ov] (getMethod ov m (do return (← importBound e env).getD true))
      callWith cp f first (backTo cp (starEach vs env)) (backToKw cp (keywordEach [] env))) := by
  have hb := base_of (m := m) (env := env) h
  rw [arm_eval_Call, hb]
  have hpos : methodCallPos true e env ap cp = pure cp := by unfold methodCallPos; simp [hl]
  have ht : ∀ ov, methodCall e m ap cp env ov (vs.length + ([] : List Keyword).length) (backTo cp (starEach vs env)) (backToKw cp (keywordEach [] env)) = (do
      let (f, first) ← holding [ov] (getMethod ov m (do return (← importBound e env).getD true))
      callWith cp f first (backTo cp (starEach vs env)) (backToKw cp (keywordEach [] env))) := by
    intro ov
    unfold methodCall
    rw [hf, hpos]
    rfl
  simp only [ht]
theorem s_methE (o : Ok c X gf W k cf gc) {cl m q : Str} {n : Nat} {e : Expr} {vs : List Expr} {es : Es} {ap cp : Pos} {mo : Lo → M D} {mr : Lo → M (List D)} (hm : (cl, m, q, n) ∈ c.mts) (hl : (ap.endLine == cp.line) = true) (hn : vs.length < 20) (hsu : notSuper e = true) (hck : ckEs c es vs = true) (ho : SE X gf W e mo) (hv : SA X gf W vs mr) (hnil : vs = [] → mr = aNil) :
    SE X gf W (.Call (.Attribute e m ap) vs [] cp) (mMeth cl m n (cf q) mo mr) := by
  obtain ⟨pl1, pl2⟩ := ckEs_plain (c := c) (env := X.env) (pos := cp) hck
  have ht := meth_of (m := m) (ap := ap) (cp := cp) (vs := vs) (env := X.env) hsu hl (few_of pl2 hn)
  cases vs with
  | nil =>
    rw [hnil rfl]
    exact s_meth0 (o.mts cl m q n hm) o.room o.tk ho ht
  | cons v vs =>
    obtain ⟨ns, e1, es1, rfl, _, hck2⟩ := ckEs_head hck
    exact s_meth (o.mts cl m q n hm) o.room o.tk ho hv (star_of ns) (ckEs_plain (c := c) hck2).1 ht
/-- each argument by itself -/
def AllSE (X : Cx) (gf : Str → Option Addr) (W : WX) (cf : Str → List D → M D) (gc : Str → Option D) : Es → List Expr → Prop
  | .nil, [] => True
  | .cons e es, v :: vs => SE X gf W v (ev cf gc e) ∧ AllSE X gf W cf gc es vs
  | _, _ => False
theorem s_bmeth (f : Bm) {e : Expr} {vs : List Expr} {es : Es} {ap cp : Pos} {mo : Lo → M D} {mr : Lo → M (List D)} (hl : (ap.endLine == cp.line) = true) (hsu : notSuper e = true) (hn : vs.length < 20) (hck : ckEs c es vs = true) (har : f.ar vs.length = true) (o : Ok c X gf W k cf gc) (hes : AllSE X gf W cf gc es vs) (ho : SE X gf W e mo) (hv : SA X gf W vs mr) (hnil : vs = [] → mr = aNil) (hmr : mr = evs cf gc es) :
    SE X gf W (.Call (.Attribute e f.name ap) vs [] cp) (mBM f.T f.g mo mr) := by
  obtain ⟨pl1, pl2⟩ := ckEs_plain (c := c) (env := X.env) (pos := cp) hck
  cases vs with
  | nil =>
    rw [hnil rfl]
    cases f with
    | append => exact s_bm0 (T := .list) PySem.F.plainAttrs_list PySem.F.slot_list_append PySem.F.type_list_append ms_append ho (base_of hsu) hl
    | extend => exact s_bm0 (T := .list) PySem.F.plainAttrs_list PySem.F.slot_list_extend PySem.F.type_list_extend ms_extend ho (base_of hsu) hl
    | pop => exact s_bm0 (T := .list) PySem.F.plainAttrs_list PySem.F.slot_list_pop PySem.F.type_list_pop ms_pop ho (base_of hsu) hl
    | get => cases har
    | dpop => cases har
    | find => exact s_bm0 (T := .str) PySem.F.plainAttrs_str PySem.F.slot_str_find PySem.F.type_str_find ms_find ho (base_of hsu) hl
    | rfind => exact s_bm0 (T := .str) PySem.F.plainAttrs_str PySem.F.slot_str_rfind PySem.F.type_str_rfind ms_rfind ho (base_of hsu) hl
    | join => exact s_bm0 (T := .str) PySem.F.plainAttrs_str PySem.F.slot_str_join PySem.F.type_str_join ms_join ho (base_of hsu) hl
    | split m => exact s_bm0 (T := .str) PySem.F.plainAttrs_str PySem.F.slot_str_split PySem.F.type_str_split ms_split ho (base_of hsu) hl
    | index => exact s_bm0 (T := .list) PySem.F.plainAttrs_list PySem.F.slot_list_index PySem.F.type_list_index ms_index ho (base_of hsu) hl
  | cons v vs =>
    obtain ⟨ns, e1, es1, rfl, _, hck2⟩ := ckEs_head hck
    obtain ⟨pl3, _⟩ := ckEs_plain (c := c) (env := X.env) (pos := cp) hck2
    cases f with
    | append => exact s_bm (T := .list) PySem.F.plainAttrs_list PySem.F.slot_list_append PySem.F.type_list_append ms_append ho hv (base_of hsu) (few_of pl2 hn) hl (star_of ns) pl3
    | extend => exact s_bm (T := .list) PySem.F.plainAttrs_list PySem.F.slot_list_extend PySem.F.type_list_extend ms_extend ho hv (base_of hsu) (few_of pl2 hn) hl (star_of ns) pl3
    | pop => exact s_bm (T := .list) PySem.F.plainAttrs_list PySem.F.slot_list_pop PySem.F.type_list_pop ms_pop ho hv (base_of hsu) (few_of pl2 hn) hl (star_of ns) pl3
    | find => exact s_bm (T := .str) PySem.F.plainAttrs_str PySem.F.slot_str_find PySem.F.type_str_find ms_find ho hv (base_of hsu) (few_of pl2 hn) hl (star_of ns) pl3
    | rfind => exact s_bm (T := .str) PySem.F.plainAttrs_str PySem.F.slot_str_rfind PySem.F.type_str_rfind ms_rfind ho hv (base_of hsu) (few_of pl2 hn) hl (star_of ns) pl3
    | join => exact s_bm (T := .str) PySem.F.plainAttrs_str PySem.F.slot_str_join PySem.F.type_str_join ms_join ho hv (base_of hsu) (few_of pl2 hn) hl (star_of ns) pl3
    | split m => exact s_bm (T := .str) PySem.F.plainAttrs_str PySem.F.slot_str_split PySem.F.type_str_split ms_split ho hv (base_of hsu) (few_of pl2 hn) hl (star_of ns) pl3
    | index => exact s_bm (T := .list) PySem.F.plainAttrs_list PySem.F.slot_list_index PySem.F.type_list_index ms_index ho hv (base_of hsu) (few_of pl2 hn) hl (star_of ns) pl3
    | get =>
      match vs, har, hck2 with
      | [w], har, hck2 =>
        obtain ⟨ns2, e2, es2, rfl, ck2, hck3⟩ := ckEs_head hck2
        cases es2 with
        | cons => simp [ckEs] at hck3
        | nil =>
          rw [hmr]
          obtain ⟨_, _, _, eq, ck1, _⟩ := ckEs_head hck
          cases eq
          have q := s_dget (W := W) (mo := mo) (by have := o.units; omega) ho hes.1 hes.2.1 ⟨base_of (m := "get") hsu, few_of pl2 hn, hl, by rw [star_of ns, star_of ns2]; rfl⟩
          rw [evs, evs, evs]
          exact q
      | [], har, _ => cases har
      | _ :: _ :: _, har, _ => cases har
    | dpop =>
      match vs, har, hck2 with
      | [], har, hck2 =>
        cases es1 with
        | cons => simp [ckEs] at hck2
        | nil =>
          rw [hmr]
          obtain ⟨_, _, _, eq, ck1, _⟩ := ckEs_head hck
          cases eq
          have q := s_dpop (W := W) (mo := mo) ho hes.1 ⟨base_of (m := "pop") hsu, few_of pl2 hn, hl, by rw [star_of ns]; rfl⟩
          rw [evs, evs]
          exact q
      | _ :: _, har, _ => cases har
theorem ty_boot (T : Ty) : bootBuiltins T.name = some (.type T.nm) := by cases T <;> decide +kernel

/-! ### targets -/
theorem names_of (o : Ok c X gf W k cf gc) : ∀ {es : List Expr} {is : List Nat}, namesB c es is = true → NamesAt X es is
  | [], [], _ => .nil
  | [], _ :: _, h => by simp [namesB] at h
  | e :: es, is, h => by
    cases e <;> cases is <;> simp only [namesB, Bool.false_eq_true] at h
    obtain ⟨h1, h2⟩ := band h
    obtain ⟨h3, h4⟩ := band h1
    obtain ⟨a, b⟩ := o.loc h4
    exact .cons (by rw [o.nN]; exact of_decide_eq_true h3) a b (names_of o h2)
theorem tg_of (o : Ok c X gf W k cf gc) {t : Tg} {e : Expr} (h : tgB c t e = true) : SG X e t := by
  have hN : X.N.Nodup := by rw [o.nN]; exact o.nd
  cases t with
  | one i =>
    cases e <;> simp only [tgB, Bool.false_eq_true] at h
    obtain ⟨h3, h4⟩ := band h
    obtain ⟨a, b⟩ := o.loc h4
    exact sg_one hN (by rw [o.nN]; exact of_decide_eq_true h3) a b
  | tup is =>
    cases e <;> simp only [tgB, Bool.false_eq_true] at h
    exact sg_tup hN o.calm (names_of o h)
  | nest i js =>
    simp only [tgB] at h
    obtain ⟨x, p, es, k2, p2, k, pos, rfl, h3, h4, h5⟩ := nestB_of h
    obtain ⟨a, b⟩ := o.loc h4
    exact sg_nest hN o.calm (by rw [o.nN]; exact h3) a b (names_of o h5)
theorem tgSlots_eq (t : Tg) : tgSlots t = t.slots := rfl
end
end TB
set_option Elab.async false
set_option linter.all false
set_option maxRecDepth 100000
set_option maxHeartbeats 4000000
/-! TB10: the look is sound: expressions -/
namespace TB
open PySem PySem.Spec L2
section
variable {gf : Str → Option Addr} {k : Nat} {cf : Str → List D → M D} {gc : Str → Option D}
theorem tru {X : Cx} {W : WX} {e : Expr} {m : Lo → M D} (h : SE X gf W e m) (he : ∀ whole, isTrue e X.env whole = (do let v ← whole; standAt e.pos; holding [v] (truthy v))) : SE X gf W e m ∧ ST X gf W e (mTru m) := ⟨h, st_tru h he⟩
theorem s_globc {c : Ck} {X : Cx} {W : WX} (o : Ok c X gf W k cf gc) {x : Str} {p : Pos} (hg : c.glob x = true) (hc : x ∈ c.con) : SE X gf W (.Name x p) (fun _ => M.look fun _ => gc x) := by
  obtain ⟨h1, h2, h3⟩ := o.glob hg
  cases h : gc x with
  | none => exact ⟨fun _ _ _ _ _ _ ⟨_, _, _, _, S, _, p⟩ => p.elim⟩
  | some d =>
    obtain ⟨v, u, q1, q2, q3⟩ := o.con x hc d h
    exact s_glob h1 q1 q2 h2 q3
theorem s_gix {c : Ck} {X : Cx} {W : WX} (o : Ok c X gf W k cf gc) {x : Str} {p pos : Pos} {b : Expr} {mb : Lo → M D} (hg : c.glob x = true) (hc : gkey x "" ∈ c.con) (hb : SE X gf W b mb) (hs : PlainIx b) : SE X gf W (.Subscript (.Name x p) b pos) (mGix (fun z => gc (gkey x z)) mb) := by
  obtain ⟨h1, h2, h3⟩ := o.glob hg
  obtain ⟨q, hq, hd⟩ := o.dic x hc
  refine imE (pe_ix ix_kdict (pe_glob (v := .ref q) h1 hq rfl h2) hb hs) fun σ H Q h => ?_
  obtain ⟨al, be, ρ, st, S, L, p⟩ := h
  refine ⟨al, be, ρ, st, S, L, p.bind.mono fun d st1 H1 al1 S1 e1 p1 v rv => ?_⟩
  obtain ⟨r, e, hQ⟩ := p1.look S1
  split at e
  · rename_i z
    obtain ⟨v2, kd, rr⟩ := hd z r e
    obtain ⟨rfl, _, _⟩ := rv.str_inv
    exact ⟨q, z, v2, rfl, rfl, kd, hQ v2 (rr _ _ _)⟩
  · cases e
/-- the values of a display -/
noncomputable def msL (cf : Str → List D → M D) (gc : Str → Option D) : Es → List (Lo → M D)
  | .nil => []
  | .cons e es => ev cf gc e :: msL cf gc es
theorem evs_all : ∀ es : Es, evs cf gc es = aAll (msL cf gc es)
  | .nil => by rw [evs]; rfl
  | .cons e es => by rw [evs, evs_all es]; rfl
theorem ckPs_len {c : Ck} : ∀ {es : Es} {ks : List Key} {keys : List (Option Expr)} {vals : List Expr}, ckPs c es ks keys vals = true → keys.all (·.isSome) = true ∧ keys.length = vals.length ∧ ks.length = (msL cf gc es).length ∧ ks.length = keys.length ∧ ∀ k ∈ ks, keyOk k
  | .nil, [], [], [], _ => ⟨rfl, rfl, rfl, rfl, fun _ h => by cases h⟩
  | .cons e es, k :: ks, some ke :: keys, v :: vs, h => by
    simp only [ckPs] at h
    obtain ⟨h1, h2⟩ := band h
    obtain ⟨h3, h4⟩ := band h1
    obtain ⟨a, b, d, e', f⟩ := ckPs_len h2
    refine ⟨by simpa using a, by simpa using b, by simpa [msL] using d, by simpa using e', fun q hq => ?_⟩
    rcases List.mem_cons.mp hq with rfl | hq
    · exact kE_ok h3
    · exact f q hq
  | .nil, _ :: _, _, _, h => by simp [ckPs] at h
  | .nil, [], _ :: _, _, h => by simp [ckPs] at h
  | .nil, [], [], _ :: _, h => by simp [ckPs] at h
  | .cons _ _, [], _, _, h => by simp [ckPs] at h
  | .cons _ _, _ :: _, [], _, h => by simp [ckPs] at h
  | .cons _ _, _ :: _, none :: _, _, h => by simp [ckPs] at h
  | .cons _ _, _ :: _, some _ :: _, [], h => by simp [ckPs] at h
mutual
theorem sndE : ∀ (a : E) (e : Expr) (c : Ck) (X : Cx) (W : WX), Ok c X gf W k cf gc → ckE c a e = true → SE X gf W e (ev cf gc a) ∧ ST X gf W e (tst cf gc a)
  | .bad, e, c, X, W, o, h => ⟨s_bad, st_bad⟩
  | .var i, e, c, X, W, o, h => by
    cases e <;> simp only [ckE, Bool.false_eq_true] at h
    obtain ⟨h1, h2⟩ := band h
    obtain ⟨h3, h4⟩ := band h1
    obtain ⟨a1, a2, a3⟩ := okName_of h2
    exact tru (s_var (by rw [o.nN]; exact of_decide_eq_true h3) (o.vis h4) a1 a2) fun _ => rfl
  | .non, e, c, X, W, o, h => by
    cases e with
    | Constant v j p => cases v <;> simp only [ckE, Bool.false_eq_true] at h; exact tru s_non fun _ => rfl
    | _ => simp only [ckE, Bool.false_eq_true] at h
  | .bl b, e, c, X, W, o, h => by
    cases e with
    | Constant v j p => cases v <;> simp only [ckE, Bool.false_eq_true] at h; cases eq_of_beq h; exact tru s_bl fun _ => rfl
    | _ => simp only [ckE, Bool.false_eq_true] at h
  | .int b, e, c, X, W, o, h => by
    cases e with
    | Constant v j p => cases v <;> simp only [ckE, Bool.false_eq_true] at h; cases of_decide_eq_true h; exact tru s_int fun _ => rfl
    | _ => simp only [ckE, Bool.false_eq_true] at h
  | .str b, e, c, X, W, o, h => by
    cases e with
    | Constant v j p =>
      cases v <;> simp only [ckE, Bool.false_eq_true] at h
      obtain ⟨h1, h2⟩ := band h
      obtain ⟨h3, h4⟩ := band h1
      cases of_decide_eq_true h3
      exact tru (s_str h4 (of_decide_eq_true h2)) fun _ => rfl
    | _ => simp only [ckE, Bool.false_eq_true] at h
  | .glob x, e, c, X, W, o, h => by
    cases e <;> simp only [ckE, Bool.false_eq_true] at h
    obtain ⟨h1, h2⟩ := band h
    obtain ⟨h3, h4⟩ := band h1
    cases of_decide_eq_true h3
    exact tru (s_globc o h4 (of_decide_eq_true h2)) fun _ => rfl
  | .band es, e, c, X, W, o, h => by
    cases e with
    | BoolOp op vs p =>
      cases op <;> simp only [ckE, Bool.false_eq_true] at h
      obtain ⟨h1, h2⟩ := band h
      cases vs with
      | nil => simp at h2
      | cons v vs =>
        obtain ⟨q1, q2⟩ := sndAnd es v vs c X W p o h1
        exact ⟨q1, q2.pt⟩
    | _ => simp only [ckE, Bool.false_eq_true] at h
  | .bor es, e, c, X, W, o, h => by
    cases e with
    | BoolOp op vs p =>
      cases op <;> simp only [ckE, Bool.false_eq_true] at h
      obtain ⟨h1, h2⟩ := band h
      cases vs with
      | nil => simp at h2
      | cons v vs =>
        obtain ⟨q1, q2⟩ := sndOr es v vs c X W p o h1
        exact ⟨q1, q2.pt⟩
    | _ => simp only [ckE, Bool.false_eq_true] at h
  | .not a, e, c, X, W, o, h => by
    cases e with
    | UnaryOp op v p =>
      cases op <;> simp only [ckE, Bool.false_eq_true] at h
      obtain ⟨q1, q2⟩ := sndE a v c X W o h
      exact ⟨s_not q1, st_not q2⟩
    | _ => simp only [ckE, Bool.false_eq_true] at h
  | .bin op a b, e, c, X, W, o, h => by
    cases e <;> simp only [ckE, Bool.false_eq_true] at h
    obtain ⟨h1, h2⟩ := band h
    obtain ⟨h3, h4⟩ := band h1
    have e1 := of_decide_eq_true h3
    subst e1
    exact tru (s_op (os_bop op) (sndE a _ c X W o h4).1 (sndE b _ c X W o h2).1) fun _ => rfl
  | .neg a, e, c, X, W, o, h => by
    cases e with
    | UnaryOp op v p =>
      cases op <;> simp only [ckE, Bool.false_eq_true] at h
      exact tru (s_neg (sndE a v c X W o h).1) fun _ => rfl
    | _ => simp only [ckE, Bool.false_eq_true] at h
  | .cmp op a b, e, c, X, W, o, h => by
    cases e with
    | Compare l ops rs p =>
      match ops, rs, h with
      | [op'], [r], h =>
        simp only [ckE] at h
        obtain ⟨h1, h2⟩ := band h
        obtain ⟨h3, h4⟩ := band h1
        obtain ⟨h5, h6⟩ := band h3
        cases of_decide_eq_true h5
        exact ⟨s_cmp (os_cmp o.units op) (sndE a _ c X W o h6).1 (sndE b _ c X W o h4).1 (mark_of h2), st_cmp (os_cmp o.units op) (sndE a _ c X W o h6).1 (sndE b _ c X W o h4).1 (mark_of h2)⟩
      | [], _, h => simp [ckE] at h
      | _ :: _ :: _, _, h => simp [ckE] at h
      | [_], [], h => simp [ckE] at h
      | [_], _ :: _ :: _, h => simp [ckE] at h
    | _ => simp only [ckE, Bool.false_eq_true] at h
  | .chain o1 o2 a b d, e, c, X, W, o, h => by
    cases e with
    | Compare l ops rs p =>
      match ops, rs, h with
      | [p1, p2], [r, r2], h =>
        simp only [ckE] at h
        obtain ⟨h, h2⟩ := band h
        obtain ⟨h, h4⟩ := band h
        obtain ⟨h, h5⟩ := band h
        obtain ⟨h, h6⟩ := band h
        obtain ⟨h, h7⟩ := band h
        have e7 := of_decide_eq_true h7
        have e8 := of_decide_eq_true h
        subst e7 e8
        have hm : lastMarks [o1, o2] [r, r2] = false := mark_of h2
        exact ⟨s_chain (os_cmp o.units o1) (os_cmp o.units o2) (sndE a _ c X W o h6).1 (sndE b _ c X W o h5).1 (sndE d _ c X W o h4).1 hm, st_chain (os_cmp o.units o1) (os_cmp o.units o2) (sndE a _ c X W o h6).1 (sndE b _ c X W o h5).1 (sndE d _ c X W o h4).1 hm⟩
      | [], _, h => simp [ckE] at h
      | [_], _, h => simp [ckE] at h
      | _ :: _ :: _ :: _, _, h => simp [ckE] at h
      | [_, _], [], h => simp [ckE] at h
      | [_, _], [_], h => simp [ckE] at h
      | [_, _], _ :: _ :: _ :: _, h => simp [ckE] at h
    | _ => simp only [ckE, Bool.false_eq_true] at h
  | .ite q a b, e, c, X, W, o, h => by
    cases e <;> simp only [ckE, Bool.false_eq_true] at h
    obtain ⟨h1, h2⟩ := band h
    obtain ⟨h3, h4⟩ := band h1
    exact ⟨s_ite (sndE q _ c X W o h3).2 (sndE a _ c X W o h4).1 (sndE b _ c X W o h2).1, st_bad⟩
  | .tup es, e, c, X, W, o, h => by
    cases e <;> simp only [ckE, Bool.false_eq_true] at h
    exact tru (s_tup (sndEs es _ c X W o h)) fun _ => rfl
  | .lst m es, e, c, X, W, o, h => by
    cases e <;> simp only [ckE, Bool.false_eq_true] at h
    exact tru (s_lst (sndEs es _ c X W o h)) fun _ => rfl
  | .call f n es, e, c, X, W, o, h => by
    cases e with
    | Call fe args kws p =>
      cases fe with
      | Name x px =>
        match args, kws, h with
        | v :: vs, [], h =>
          simp only [ckE] at h
          obtain ⟨h1, h2⟩ := band h
          obtain ⟨h3, h4⟩ := band h1
          obtain ⟨h5, h6⟩ := band h3
          cases of_decide_eq_true h5
          obtain ⟨g1, g2, g3⟩ := o.glob h6
          obtain ⟨ns, e1, es1, rfl, q1, q2⟩ := ckEs_head h2
          exact tru (s_call (o.fns f n (of_decide_eq_true h4)) o.room g1 o.tk (sndEs _ _ c X W o h2) g2 (star_of ns) (ckEs_plain q2).1) fun _ => rfl
        | [], _, h => simp [ckE] at h
        | _ :: _, _ :: _, h => simp [ckE] at h
      | _ => simp [ckE] at h
    | _ => simp only [ckE, Bool.false_eq_true] at h
  | .blt f a, e, c, X, W, o, h => by
    cases e with
    | Call fe args kws p =>
      cases fe with
      | Name x px =>
        match args, kws, h with
        | [v], [], h =>
          simp only [ckE] at h
          obtain ⟨h1, h2⟩ := band h
          obtain ⟨h3, h4⟩ := band h1
          cases of_decide_eq_true h3
          have ns : notStar v = true := ckE_star h2
          exact tru (s_bltin o f h4 (sndE a v c X W o h2).1 ns) fun _ => rfl
        | [], _, h => simp [ckE] at h
        | _ :: _ :: _, _, h => simp [ckE] at h
        | [_], _ :: _, h => simp [ckE] at h
      | _ => simp [ckE] at h
    | _ => simp only [ckE, Bool.false_eq_true] at h
  | .isi T a, e, c, X, W, o, h => by
    cases e with
    | Call fe args kws p =>
      cases fe with
      | Name x px =>
        match args, kws, h with
        | [v, t], [], h =>
          cases t with
          | Name t pt =>
            simp only [ckE] at h
            obtain ⟨h, h2⟩ := band h
            obtain ⟨h, h3⟩ := band h
            obtain ⟨h, h4⟩ := band h
            obtain ⟨h, h5⟩ := band h
            have e4 := of_decide_eq_true h4
            have e5 := of_decide_eq_true h
            subst e4 e5
            obtain ⟨g1, g2, g3, g4⟩ := o.blt h5
            obtain ⟨t1, t2, t3, t4⟩ := o.blt h3
            exact tru (s_isi (x := "isinstance") (sndE a v c X W o h2).1 g1 g2 t1 t2 (ty_boot T) t4 t3 (star_of (ckE_star h2))) fun _ => rfl
          | _ => simp [ckE] at h
        | [], _, h => simp [ckE] at h
        | [_], _, h => simp [ckE] at h
        | _ :: _ :: _ :: _, _, h => simp [ckE] at h
        | [_, _], _ :: _, h => simp [ckE] at h
      | _ => simp [ckE] at h
    | _ => simp only [ckE, Bool.false_eq_true] at h
  | .bm f ob es, e, c, X, W, o, h => by
    cases e with
    | Call fe args kws p =>
      cases fe with
      | Attribute e1 m ap =>
        cases kws with
        | nil =>
          simp only [ckE] at h
          obtain ⟨h, har⟩ := band h
          obtain ⟨h, h2⟩ := band h
          obtain ⟨h, h3⟩ := band h
          obtain ⟨h, h4⟩ := band h
          obtain ⟨h, h5⟩ := band h
          obtain ⟨h, h6⟩ := band h
          cases of_decide_eq_true h
          exact tru (s_bmeth f h6 h5 (of_decide_eq_true h4) h2 har o (sndEs2 es args c X W o h2) (sndE ob e1 c X W o h3).1 (sndEs es args c X W o h2) (fun z => by subst z; cases es with | nil => rfl | cons => simp [ckEs] at h2) rfl) fun _ => rfl
        | cons => simp [ckE] at h
      | _ => simp [ckE] at h
    | _ => simp only [ckE, Bool.false_eq_true] at h
  | .idx ob i, e, c, X, W, o, h => by
    cases e <;> simp only [ckE, Bool.false_eq_true] at h
    obtain ⟨h1, h2⟩ := band h
    obtain ⟨h3, h4⟩ := band h1
    exact tru (s_idx o.units (sndE ob _ c X W o h4).1 (sndE i _ c X W o h2).1 (plainIx_of h3)) fun _ => rfl
  | .slc m ob lo hi, e, c, X, W, o, h => by
    cases e with
    | Subscript e1 s p =>
      cases s with
      | Slice l u st p2 =>
        cases st with
        | none =>
          simp only [ckE] at h
          obtain ⟨h1, h2⟩ := band h
          obtain ⟨h3, h4⟩ := band h1
          exact tru (s_slc (sndE ob _ c X W o h3).1 (sndO lo _ c X W o h4) (sndO hi _ c X W o h2)) fun _ => rfl
        | some _ => simp [ckE] at h
      | _ => simp [ckE] at h
    | _ => simp only [ckE, Bool.false_eq_true] at h
  | .rev m ob, e, c, X, W, o, h => by
    cases e <;> simp only [ckE, Bool.false_eq_true] at h
    obtain ⟨h1, h2⟩ := band h
    obtain ⟨_, _, _, _, rfl⟩ := isRevS_of h1
    exact tru (s_rev (sndE ob _ c X W o h2).1) fun _ => rfl
  | .lc m own t it cd el, e, c, X, W, o, h => by
    cases e with
    | ListComp e1 gens scope p =>
      match gens, h with
      | [⟨tg, iter, ifs, as⟩], h =>
        simp only [ckE] at h
        obtain ⟨h, h1⟩ := band h
        obtain ⟨h, h2⟩ := band h
        obtain ⟨h, h3⟩ := band h
        obtain ⟨h, h4⟩ := band h
        obtain ⟨h, h5⟩ := band h
        obtain ⟨h, h6⟩ := band h
        obtain ⟨h, h7⟩ := band h
        have e8 := of_decide_eq_true h
        subst e8
        have ob := fun s H C cl fp => o.blk s H scope cl C fp
        refine tru (s_lc (own := own) o.calm (by rw [o.nN]; exact o.nd) (sndI it iter tg c X W o h4) (by rw [o.nN, o.sc]; exact blkOk_by h7) (fun i hi => ?_)
          (fun s H C cl fp => tg_of (ob s H C cl fp) h3) (fun s H C cl fp => sndC cd ifs _ _ _ (ob s H C cl fp) h2) (fun s H C cl fp => (sndE el e1 _ _ _ (ob s H C cl fp) h1).1) (fset_of h5)) fun _ => rfl
        exact of_decide_eq_true (List.all_eq_true.mp h6 i (by cases t <;> exact hi))
      | [], h => simp [ckE] at h
      | _ :: _ :: _, h => simp [ckE] at h
    | _ => simp only [ckE, Bool.false_eq_true] at h
  | .lenset a, e, c, X, W, o, h => by
    simp only [ckE] at h
    split at h
    · rename_i v hv
      obtain ⟨p, p2, q, pos, rfl⟩ := asLenSet_of hv
      obtain ⟨h1, h2⟩ := band h
      obtain ⟨h3, h4⟩ := band h1
      obtain ⟨a1, a2, a3, a4⟩ := o.blt h3
      obtain ⟨b1, b2, b3, b4⟩ := o.blt h4
      exact tru (s_lenset o.calm a1 a2 b1 b2 (sndE a v c X W o h2).1 (star_of (ckE_star h2))) fun _ => rfl
    · cases h
  | .srev a, e, c, X, W, o, h => by
    simp only [ckE] at h
    split at h
    · rename_i v hv
      obtain ⟨p, j, p2, p3, pos, rfl⟩ := asSrev_of hv
      obtain ⟨h1, h2⟩ := band h
      obtain ⟨a1, a2, a3, a4⟩ := o.blt h1
      exact tru (s_srev a1 a2 (sndE a v c X W o h2).1 (star_of (ckE_star h2))) fun _ => rfl
    · cases h
  | .fld cl f ob, e, c, X, W, o, h => by
    cases e <;> simp only [ckE, Bool.false_eq_true] at h
    obtain ⟨h, h1⟩ := band h
    obtain ⟨h, h2⟩ := band h
    obtain ⟨h, h3⟩ := band h
    cases of_decide_eq_true h
    obtain ⟨C, q1, q2, q3⟩ := o.flds cl f (of_decide_eq_true h3)
    exact tru (s_fld q1 q2 q3 (sndE ob _ c X W o h1).1 (base_of h2)) fun _ => rfl
  | .meth cl m q n ob es, e, c, X, W, o, h => by
    cases e with
    | Call fe args kws p =>
      cases fe with
      | Attribute e1 m' ap =>
        cases kws with
        | nil =>
          simp only [ckE] at h
          obtain ⟨h, h1⟩ := band h
          obtain ⟨h, h2⟩ := band h
          obtain ⟨h, h3⟩ := band h
          obtain ⟨h, h4⟩ := band h
          obtain ⟨h, h5⟩ := band h
          obtain ⟨h, h6⟩ := band h
          cases of_decide_eq_true h
          exact tru (s_methE o (of_decide_eq_true h6) h5 (of_decide_eq_true h4) h3 h1 (sndE ob e1 c X W o h2).1 (sndEs es args c X W o h1) (fun z => by subst z; cases es with | nil => rfl | cons => simp [ckEs] at h1)) fun _ => rfl
        | cons => simp [ckE] at h
      | _ => simp [ckE] at h
    | _ => simp only [ckE, Bool.false_eq_true] at h
  | .mk cl q n es, e, c, X, W, o, h => by
    cases e with
    | Call fe args kws p =>
      cases fe with
      | Name x px =>
        match args, kws, h with
        | v :: vs, [], h =>
          simp only [ckE] at h
          obtain ⟨h1, h2⟩ := band h
          obtain ⟨h3, h4⟩ := band h1
          obtain ⟨h5, h6⟩ := band h3
          cases of_decide_eq_true h5
          obtain ⟨g1, g2, g3⟩ := o.glob h6
          obtain ⟨ns, e1, es1, rfl, q1, q2⟩ := ckEs_head h2
          exact ⟨s_mk (o.mks cl q n (of_decide_eq_true h4)) o.room1 g1 (sndEs _ _ c X W o h2) g2 (star_of ns) (ckEs_plain q2).1, st_bad⟩
        | [], _, h => simp [ckE] at h
        | _ :: _, _ :: _, h => simp [ckE] at h
      | _ => simp [ckE] at h
    | _ => simp only [ckE, Bool.false_eq_true] at h
  | .blt2 f a b, e, c, X, W, o, h => by
    cases e with
    | Call fe args kws p =>
      cases fe with
      | Name x px =>
        match args, kws, h with
        | [v, w], [], h =>
          simp only [ckE] at h
          obtain ⟨h, h1⟩ := band h
          obtain ⟨h, h2⟩ := band h
          obtain ⟨h, h3⟩ := band h
          obtain ⟨h, h4⟩ := band h
          obtain ⟨h, h5⟩ := band h
          cases of_decide_eq_true h
          exact tru (s_bltin2 o f h5 (sndE a v c X W o h4).1 (sndE b w c X W o h3).1 h2 h1) fun _ => rfl
        | [], _, h => simp [ckE] at h
        | [_], _, h => simp [ckE] at h
        | _ :: _ :: _ :: _, _, h => simp [ckE] at h
        | [_, _], _ :: _, h => simp [ckE] at h
      | _ => simp [ckE] at h
    | _ => simp only [ckE, Bool.false_eq_true] at h
  | .gix x e1, e, c, X, W, o, h => by
    cases e <;> simp only [ckE, Bool.false_eq_true] at h
    obtain ⟨h1, h2⟩ := band h
    obtain ⟨h3, h4⟩ := band h1
    obtain ⟨p, rfl, h5, h6⟩ := gixB_of h3
    exact tru (s_gix o h5 h6 (sndE e1 _ c X W o h2).1 (plainIx_of h4)) fun _ => rfl
  | .dsp ks es, e, c, X, W, o, h => by
    cases e <;> simp only [ckE, Bool.false_eq_true] at h
    rename_i keys vals p
    obtain ⟨h, h1⟩ := band h
    obtain ⟨h, h2⟩ := band h
    obtain ⟨a1, a2, a3, a4, a5⟩ := ckPs_len (cf := cf) (gc := gc) h
    rw [ev, tst, evs_all]
    exact tru (s_dsp (sndPs es ks keys vals c X W p o h) a1 a2 (fun z => by subst z; simp at h2) (of_decide_eq_true h1) a3 a4 a5) fun _ => rfl
  | .dnew, e, c, X, W, o, h => by
    cases e <;> simp only [ckE, Bool.false_eq_true] at h
    rename_i keys vals p
    obtain ⟨h1, h2⟩ := band h
    cases keys with
    | nil =>
      cases vals with
      | nil => exact tru s_dnew fun _ => rfl
      | cons => simp at h2
    | cons => simp at h1
theorem sndPs : ∀ (es : Es) (ks : List Key) (keys : List (Option Expr)) (vals : List Expr) (c : Ck) (X : Cx) (W : WX) (p : Pos), Ok c X gf W k cf gc → ckPs c es ks keys vals = true → PPs X p keys vals (dTrs X.K gf W ks (msL cf gc es))
  | .nil, [], [], [], c, X, W, p, o, h => pps_nil
  | .cons e es, q :: ks, some ke :: keys, v :: vs, c, X, W, p, o, h => by
    simp only [ckPs] at h
    obtain ⟨h1, h2⟩ := band h
    obtain ⟨h3, h4⟩ := band h1
    exact pps_cons (kE_of h3) (sndE e v c X W o h4).1 (sndPs es ks keys vs c X W p o h2)
  | .nil, _ :: _, _, _, c, X, W, p, o, h => by simp [ckPs] at h
  | .nil, [], _ :: _, _, c, X, W, p, o, h => by simp [ckPs] at h
  | .nil, [], [], _ :: _, c, X, W, p, o, h => by simp [ckPs] at h
  | .cons _ _, [], _, _, c, X, W, p, o, h => by simp [ckPs] at h
  | .cons _ _, _ :: _, [], _, c, X, W, p, o, h => by simp [ckPs] at h
  | .cons _ _, _ :: _, none :: _, _, c, X, W, p, o, h => by simp [ckPs] at h
  | .cons _ _, _ :: _, some _ :: _, [], c, X, W, p, o, h => by simp [ckPs] at h
theorem sndEs : ∀ (es : Es) (vs : List Expr) (c : Ck) (X : Cx) (W : WX), Ok c X gf W k cf gc → ckEs c es vs = true → SA X gf W vs (evs cf gc es)
  | .nil, [], c, X, W, o, h => sa_nil
  | .nil, _ :: _, c, X, W, o, h => by simp [ckEs] at h
  | .cons _ _, [], c, X, W, o, h => by simp [ckEs] at h
  | .cons e es, v :: vs, c, X, W, o, h => by
    simp only [ckEs] at h
    obtain ⟨h1, h2⟩ := band h
    obtain ⟨h3, h4⟩ := band h1
    exact sa_cons (sndE e v c X W o h3).1 (sndEs es vs c X W o h2) (star_of h4)
theorem sndEs2 : ∀ (es : Es) (vs : List Expr) (c : Ck) (X : Cx) (W : WX), Ok c X gf W k cf gc → ckEs c es vs = true → AllSE X gf W cf gc es vs
  | .nil, [], c, X, W, o, h => trivial
  | .nil, _ :: _, c, X, W, o, h => by simp [ckEs] at h
  | .cons _ _, [], c, X, W, o, h => by simp [ckEs] at h
  | .cons e es, v :: vs, c, X, W, o, h => by
    simp only [ckEs] at h
    obtain ⟨h1, h2⟩ := band h
    obtain ⟨h3, h4⟩ := band h1
    exact ⟨(sndE e v c X W o h3).1, sndEs2 es vs c X W o h2⟩
theorem sndAnd : ∀ (es : Es) (v : Expr) (vs : List Expr) (c : Ck) (X : Cx) (W : WX) (p : Pos), Ok c X gf W k cf gc → ckEs c es (v :: vs) = true → SE X gf W (.BoolOp .And (v :: vs) p) (evAnd cf gc es) ∧ SW X gf W (.BoolOp .And (v :: vs) p) (tstAnd cf gc es)
  | .nil, v, vs, c, X, W, p, o, h => by simp [ckEs] at h
  | .cons e es, v, vs, c, X, W, p, o, h => by
    simp only [ckEs] at h
    obtain ⟨h1, h2⟩ := band h
    obtain ⟨h3, h4⟩ := band h1
    obtain ⟨q1, q2⟩ := sndE e v c X W o h3
    match es, vs, h2 with
    | .nil, [], _ => exact ⟨s_one q1, sw_and1 q2⟩
    | .nil, _ :: _, h2 => simp [ckEs] at h2
    | .cons _ _, [], h2 => simp [ckEs] at h2
    | .cons e2 es2, v2 :: vs2, h2 =>
      obtain ⟨r1, r2⟩ := sndAnd (.cons e2 es2) v2 vs2 c X W p o h2
      exact ⟨s_and q1 r1, sw_and q2 r2⟩
theorem sndOr : ∀ (es : Es) (v : Expr) (vs : List Expr) (c : Ck) (X : Cx) (W : WX) (p : Pos), Ok c X gf W k cf gc → ckEs c es (v :: vs) = true → SE X gf W (.BoolOp .Or (v :: vs) p) (evOr cf gc es) ∧ SW X gf W (.BoolOp .Or (v :: vs) p) (tstOr cf gc es)
  | .nil, v, vs, c, X, W, p, o, h => by simp [ckEs] at h
  | .cons e es, v, vs, c, X, W, p, o, h => by
    simp only [ckEs] at h
    obtain ⟨h1, h2⟩ := band h
    obtain ⟨h3, h4⟩ := band h1
    obtain ⟨q1, q2⟩ := sndE e v c X W o h3
    match es, vs, h2 with
    | .nil, [], _ => exact ⟨s_one q1, sw_or1 q2⟩
    | .nil, _ :: _, h2 => simp [ckEs] at h2
    | .cons _ _, [], h2 => simp [ckEs] at h2
    | .cons e2 es2, v2 :: vs2, h2 =>
      obtain ⟨r1, r2⟩ := sndOr (.cons e2 es2) v2 vs2 c X W p o h2
      exact ⟨s_or q1 r1, sw_or q2 r2⟩
theorem sndO : ∀ (eo : Eo) (v : Option Expr) (c : Ck) (X : Cx) (W : WX), Ok c X gf W k cf gc → ckO c eo v = true → SO X gf W v (evo cf gc eo)
  | .none, none, c, X, W, o, h => so_none
  | .none, some _, c, X, W, o, h => by simp [ckO] at h
  | .some _, none, c, X, W, o, h => by simp [ckO] at h
  | .some e, some v, c, X, W, o, h => by
    simp only [ckO] at h
    exact so_some (sndE e v c X W o h).1
theorem sndC : ∀ (eo : Eo) (vs : List Expr) (c : Ck) (X : Cx) (W : WX), Ok c X gf W k cf gc → ckC c eo vs = true → SC X gf W vs (evc cf gc eo)
  | .none, [], c, X, W, o, h => sc_nil
  | .none, _ :: _, c, X, W, o, h => by simp [ckC] at h
  | .some _, [], c, X, W, o, h => by simp [ckC] at h
  | .some _, _ :: _ :: _, c, X, W, o, h => by simp [ckC] at h
  | .some e, [v], c, X, W, o, h => by
    simp only [ckC] at h
    exact sc_one (sndE e v c X W o h).2
theorem sndI : ∀ (it : It) (v tg : Expr) (c : Ck) (X : Cx) (W : WX), Ok c X gf W k cf gc → ckI c it tg v = true → SI X gf W tg v (evi cf gc it)
  | .seq e, v, tg, c, X, W, o, h => by simp only [ckI] at h; exact si_seq (sndE e v c X W o h).1
  | .rng1 e, v, tg, c, X, W, o, h => by
    cases v with
    | Call fe args kws p =>
      cases fe with
      | Name x px =>
        match args, kws, h with
        | [v], [], h =>
          simp only [ckI] at h
          obtain ⟨h, h2⟩ := band h
          obtain ⟨h, h3⟩ := band h
          obtain ⟨h, h4⟩ := band h
          cases of_decide_eq_true h
          obtain ⟨g1, g2, g3, g4⟩ := o.blt h4
          exact si_rng1 g1 g2 (sndE e v c X W o h3).1 (star_of h2)
        | [], _, h => simp [ckI] at h
        | _ :: _ :: _, _, h => simp [ckI] at h
        | [_], _ :: _, h => simp [ckI] at h
      | _ => simp [ckI] at h
    | _ => simp [ckI] at h
  | .zip a b, v, tg, c, X, W, o, h => by
    cases tg with
    | Tuple elts kk tpos =>
      cases v with
      | Call fe args kws p =>
        cases fe with
        | Name x px =>
          match args, kws, h with
          | [v, w], [], h =>
            simp only [ckI] at h
            obtain ⟨h, h2⟩ := band h
            obtain ⟨h, h3⟩ := band h
            obtain ⟨h, h4⟩ := band h
            obtain ⟨h, h5⟩ := band h
            obtain ⟨h, h6⟩ := band h
            cases of_decide_eq_true h
            obtain ⟨g1, g2, g3, g4⟩ := o.blt h6
            rw [evi]
            exact si_zip g1 g2 (sa_cons (sndE a v c X W o h5).1 (sa_cons (sndE b w c X W o h4).1 sa_nil (star_of h2)) (star_of h3)) (star_of h3) (by rw [star_of h2]; rfl)
          | [], _, h => simp [ckI] at h
          | [_], _, h => simp [ckI] at h
          | _ :: _ :: _ :: _, _, h => simp [ckI] at h
          | [_, _], _ :: _, h => simp [ckI] at h
        | _ => simp [ckI] at h
      | _ => simp [ckI] at h
    | _ => simp [ckI] at h
  | .enum e, v, tg, c, X, W, o, h => by
    cases tg with
    | Tuple elts kk tpos =>
      cases v with
      | Call fe args kws p =>
        cases fe with
        | Name x px =>
          match args, kws, h with
          | [v], [], h =>
            simp only [ckI] at h
            obtain ⟨h, h2⟩ := band h
            obtain ⟨h, h3⟩ := band h
            obtain ⟨h, h4⟩ := band h
            cases of_decide_eq_true h
            obtain ⟨g1, g2, g3, g4⟩ := o.blt h4
            exact si_enum g1 g2 (sndE e v c X W o h3).1 (star_of h2)
          | [], _, h => simp [ckI] at h
          | _ :: _ :: _, _, h => simp [ckI] at h
          | [_], _ :: _, h => simp [ckI] at h
        | _ => simp [ckI] at h
      | _ => simp [ckI] at h
    | _ => simp [ckI] at h
end
end
end TB
set_option Elab.async false
set_option linter.all false
set_option maxRecDepth 100000
set_option maxHeartbeats 4000000
/-! TB11: the look is sound: statements, defs -/
namespace TB
open PySem PySem.Spec L2
open PyProof.Rows (envOfC)

/-- the names of a pair of targets on one line -/
def parB (c : Ck) (x : Str) (px : Pos) (y : Str) (py : Pos) (a b : Expr) : Bool :=
  kindB c.sc x .local && kindB c.sc y .local && (py.line == px.line) && !(x == y) && notStar a && notStar b && !(foldedForSure 8 a && foldedForSure 8 b) && !(constantsAlone 8 a && constantsAlone 8 b)
def isTup : Expr → Bool
  | .Tuple _ _ _ => true
  | _ => false
def isName : Expr → Bool
  | .Name _ _ => true
  | _ => false
/-- a comprehension that is stored at once -/
def swB (c : Ck) (y : Str) (py : Pos) (scope : Scope) (p : Pos) : Bool := kindB c.sc y .local && (py.line == p.line) && !(scope.names.any fun (n, k) => n == y && (k == .local || k == .cell))
def asPar : List Expr → Expr → Option (Str × Pos × Str × Pos × Expr × Expr)
  | [.Tuple [.Name x px, .Name y py] _ _], .Tuple [va, vb] _ _ => some (x, px, y, py, va, vb)
  | _, _ => none
theorem asPar_of {tgs : List Expr} {v : Expr} {x y : Str} {px py : Pos} {va vb : Expr} (h : asPar tgs v = some (x, px, y, py, va, vb)) : ∃ kt pt k2 pt2, tgs = [.Tuple [.Name x px, .Name y py] kt pt] ∧ v = .Tuple [va, vb] k2 pt2 := by
  unfold asPar at h
  split at h
  · cases h; exact ⟨_, _, _, _, rfl, rfl⟩
  · cases h
def par3B (c : Ck) (x : Str) (px : Pos) (y : Str) (py : Pos) (z : Str) (pz : Pos) (a b d : Expr) : Bool :=
  kindB c.sc x .local && kindB c.sc y .local && kindB c.sc z .local && (py.line == px.line) && (pz.line == px.line) && !(x == y) && !(x == z) && !(y == z) && notStar a && notStar b && notStar d && !(foldedForSure 8 a && (foldedForSure 8 b && foldedForSure 8 d)) && !(constantsAlone 8 a && (constantsAlone 8 b && constantsAlone 8 d))
structure P3 where
  x : Str
  px : Pos
  y : Str
  py : Pos
  z : Str
  pz : Pos
  a : Expr
  b : Expr
  d : Expr
def asPar3 : List Expr → Expr → Option P3
  | [.Tuple [.Name x px, .Name y py, .Name z pz] _ _], .Tuple [va, vb, vc] _ _ => some ⟨x, px, y, py, z, pz, va, vb, vc⟩
  | _, _ => none
theorem asPar3_of {tgs : List Expr} {v : Expr} {q : P3} (h : asPar3 tgs v = some q) : ∃ kt pt k2 pt2, tgs = [.Tuple [.Name q.x q.px, .Name q.y q.py, .Name q.z q.pz] kt pt] ∧ v = .Tuple [q.a, q.b, q.d] k2 pt2 := by
  unfold asPar3 at h
  split at h
  · cases h; exact ⟨_, _, _, _, rfl, rfl⟩
  · cases h
def asSub : List Expr → Option (Expr × Expr)
  | [.Subscript o i _] => some (o, i)
  | _ => none
theorem asSub_of {tgs : List Expr} {q : Expr × Expr} (h : asSub tgs = some q) : ∃ p, tgs = [.Subscript q.1 q.2 p] := by
  unfold asSub at h
  split at h
  · cases h; exact ⟨_, rfl⟩
  · cases h
def asFld (f : Str) : List Expr → Option Expr
  | [.Attribute o g _] => if f = g then some o else none
  | _ => none
theorem asFld_of {f : Str} {tgs : List Expr} {q : Expr} (h : asFld f tgs = some q) : ∃ p, tgs = [.Attribute q f p] := by
  unfold asFld at h
  split at h
  · split at h
    · rename_i e; subst e; cases h; exact ⟨_, rfl⟩
    · cases h
  · cases h
/-- a tuple of names that is stored from the left -/
def swNone (sc : Scope) : Expr → Expr → Bool
  | .Tuple ts _ _, .Tuple vs _ _ => !(ts.length == 2 || ts.length == 3) || ts.any (fun t => match t with | .Name x _ => !(kindB sc x .local) | _ => true) || vs.all (foldedForSure 8)
  | _, _ => false
def asgB (c : Ck) (t : Tg) (e : E) (tg v : Expr) : Bool := match t, e, tg, v with
  | .one i, .lc m own t2 it cd el, .Name y py, .ListComp e1 gens scope p => (decide (c.N[i]? = some y) && swB c y py scope p && ckE c (.lc m own t2 it cd el) (.ListComp e1 gens scope p)) || (kindB c.sc y .cell && tgB c (.one i) (.Name y py) && ckE c (.lc m own t2 it cd el) (.ListComp e1 gens scope p))
  | _, _, _, _ => (notComp v || isTup tg) && (isName tg || !(isTup v) || swNone c.sc tg v) && tgB c t tg && ckE c e v
/-! ### raise, try -/
def asRaise : Stmt → Option Str
  | .Raise (some (.Call (.Name x _) [] [] _)) none _ => some x
  | _ => none
theorem asRaise_of {s : Stmt} {x : Str} (h : asRaise s = some x) : ∃ p1 p2 p3, s = .Raise (some (.Call (.Name x p1) [] [] p2)) none p3 := by
  unfold asRaise at h
  split at h
  · cases h; exact ⟨_, _, _, rfl⟩
  · cases h
def asTry : Stmt → Option (List Stmt × ExceptHandler × List ExceptHandler)
  | .Try body (h :: hds) [] [] _ => some (body, h, hds)
  | _ => none
theorem asTry_of {s : Stmt} {q : List Stmt × ExceptHandler × List ExceptHandler} (h : asTry s = some q) : ∃ p, s = .Try q.1 (q.2.1 :: q.2.2) [] [] p := by
  unfold asTry at h
  split at h
  · cases h; exact ⟨_, rfl⟩
  · cases h
def asEH : ExceptHandler → Option (Str × Stmt × List Stmt)
  | .ExceptHandler (some (.Name x _)) none (b :: suite) _ => some (x, b, suite)
  | _ => none
theorem asEH_of {s : ExceptHandler} {q : Str × Stmt × List Stmt} (h : asEH s = some q) : ∃ p1 p2, s = .ExceptHandler (some (.Name q.1 p1)) none (q.2.1 :: q.2.2) p2 := by
  unfold asEH at h
  split at h
  · cases h; exact ⟨_, _, rfl⟩
  · cases h
def asSetS : List Stmt → Option (Str × Str)
  | [.Assign [.Name y _] (.Constant (.str x) _ _) _] => some (y, x)
  | _ => none
theorem asSetS_of {s : List Stmt} {q : Str × Str} (h : asSetS s = some q) : ∃ k p1 p2 p3, s = [.Assign [.Name q.1 p1] (.Constant (.str q.2) k p2) p3] := by
  unfold asSetS at h
  split at h
  · cases h; exact ⟨_, _, _, _, rfl⟩
  · cases h
def isRetN : List Stmt → Bool
  | [.Return (some (.Constant .none _ _)) _] => true
  | _ => false
theorem isRetN_of {s : List Stmt} (h : isRetN s = true) : ∃ k p1 p2, s = [.Return (some (.Constant .none k p1)) p2] := by
  unfold isRetN at h
  split at h
  · exact ⟨_, _, _, rfl⟩
  · cases h
def ckHd (c : Ck) : Hd → List Stmt → Bool
  | .set i x, s => (match asSetS s with
    | some q => decide (c.N[i]? = some q.1) && decide (q.2 = x) && kindB c.sc q.1 .local && PyData.strOk x && decide (x.length ≤ sizeLine)
    | none => false)
  | .non, s => isRetN s
def ckHs (c : Ck) (known : List Str) : List (Str × Hd) → List ExceptHandler → Bool
  | [], [] => true
  | h :: hs, e :: es => (match asEH e with
    | some q => decide (h.1 = q.1) && decide (h.1 ∈ known) && c.glob h.1 && ckHd c h.2 (q.2.1 :: q.2.2)
    | none => false) && ckHs c known hs es
  | _, _ => false
mutual
def ckS (c : Ck) : S → Stmt → Bool
  | .bad, _ => true
  | .pass, .Pass _ => true
  | .brk, .Break _ => true
  | .cont, .Continue _ => true
  | .expr e, .Expr v _ => notComp v && ckE c e v
  | .ret e, .Return (some v) _ => ckE c e v
  | .asg t e, .Assign [tg] v _ => asgB c t e tg v
  | .par i j a b, .Assign tgs v _ => (match asPar tgs v with
    | some (x, px, y, py, va, vb) => decide (c.N[i]? = some x) && decide (c.N[j]? = some y) && parB c x px y py va vb && ckE c a va && ckE c b vb
    | none => false)
  | .par3 i j l a b d, .Assign tgs v _ => (match asPar3 tgs v with
    | some q => decide (c.N[i]? = some q.x) && decide (c.N[j]? = some q.y) && decide (c.N[l]? = some q.z) && par3B c q.x q.px q.y q.py q.z q.pz q.a q.b q.d && ckE c a q.a && ckE c b q.b && ckE c d q.d
    | none => false)
  | .dput o k v, .Assign tgs e _ => (match asSub tgs with
    | some q => notComp e && ckE c o q.1 && ckE c k q.2 && ckE c v e
    | none => false)
  | .fput cl f o v, .Assign tgs e _ => (match asFld f tgs with
    | some q => decide ((cl, f) ∈ c.flds) && ckE c o q && ckE c v e
    | none => false)
  | .ife q a b, .If e sa sb _ => ckE c q e && ckSs c a sa && ckSs c b sb
  | .for_ t it b, .For tg iter body [] _ => notSet iter && ckI c it tg iter && tgB c t tg && ckSs c b body
  | .whl _ q b, .While e body [] _ => ckE c q e && ckSs c b body
  | .raise x, s => (match asRaise s with
    | some y => decide (x = y) && c.glob x && decide (x ∈ c.exc)
    | none => false)
  | .try_ known b hs, s => (match asTry s with
    | some q => ckSs c b q.1 && known.all (fun x => decide (x ∈ c.exc)) && ckHs c known hs (q.2.1 :: q.2.2)
    | none => false)
  | _, _ => false
def ckSs (c : Ck) : Ss → List Stmt → Bool
  | .nil, [] => true
  | .cons s ss, v :: vs => ckS c s v && ckSs c ss vs
  | _, _ => false
end

section
variable {gf : Str → Option Addr} {k : Nat} {cf : Str → List D → M D} {gc : Str → Option D}
theorem swaps_of {v : Expr} {t : Option Expr} {l : Nat} {env : Env} (h : notComp v = true) : swapsWith v t l env = pure false := by
  cases v <;> first | rfl | cases h
theorem swaps_of' {v t : Expr} {l : Nat} {env : Env} (h : (notComp v || isTup t) = true) : swapsWith v (some t) l env = pure false := by
  rcases Bool.or_eq_true_iff.mp h with h | h
  · exact swaps_of h
  · cases t <;> first | (cases h; done) | (cases v <;> rfl)
theorem fm_len {α β : Type} {f : α → Option β} : ∀ {l : List α}, (l.filterMap f).length = l.length → ∀ x ∈ l, f x ≠ none
  | [], _, _, h => by cases h
  | y :: l, e, x, h => by
    have le := List.length_filterMap_le f l
    cases hy : f y with
    | none => rw [List.filterMap_cons_none hy, List.length_cons] at e; omega
    | some z =>
      rw [List.filterMap_cons_some hy, List.length_cons, List.length_cons] at e
      rcases List.mem_cons.mp h with rfl | h
      · rw [hy]; exact fun z => by cases z
      · exact fm_len (by omega) x h
theorem swNone_of {tg v : Expr} {env : Env} {sc : Scope} (hsc : env.scope = sc) (h : swNone sc tg v = true) : swappedStores [tg] v env = pure none := by
  unfold swNone at h
  split at h
  · rename_i ts _ _ vs _ _
    unfold swappedStores
    dsimp only
    by_cases a1 : (!(ts.length == 2 || ts.length == 3) || vs.length != ts.length || env.blockKind != .function) = true
    · exact if_pos a1
    refine (if_neg a1).trans ?_
    by_cases a2 : (vs.any fun | .Starred .. => true | _ => false) = true
    · exact if_pos a2
    refine (if_neg a2).trans ?_
    by_cases a3 : ((ts.filterMap fun
    | .Name id pos => if env.kindOf id == some .local && pos.line == (ts.head?.map (·.pos.line)).getD 0 then some id else none
    | _ => none).length != ts.length || (ts.filterMap fun
    | .Name id pos => if env.kindOf id == some .local && pos.line == (ts.head?.map (·.pos.line)).getD 0 then some id else none
    | _ => none).eraseDups.length != (ts.filterMap fun
    | .Name id pos => if env.kindOf id == some .local && pos.line == (ts.head?.map (·.pos.line)).getD 0 then some id else none
    | _ => none).length) = true
    · exact if_pos a3
    refine (if_neg a3).trans ?_
    simp only [Bool.or_eq_true] at h
    rcases h with (h | h) | h
    · exfalso; apply a1; rw [h]; rfl
    · exfalso
      obtain ⟨t, ht, hb⟩ := List.any_eq_true.mp h
      simp only [Bool.or_eq_true, bne_iff_ne, ne_eq, not_or, Decidable.not_not] at a3
      have := fm_len a3.1 t ht
      apply this
      split
      · rename_i x p
        have hk : ¬ (env.kindOf x == some .local) = true := fun z => by
          have z := eq_of_beq z
          have : kindB sc x .local = true := decide_eq_true (by rw [← hsc]; exact z)
          simp [this] at hb
        simp [hk]
      · rfl
    · exact if_pos h
  · cases h
theorem stores_of {tg v : Expr} {env : Env} {sc : Scope} (hsc : env.scope = sc) (h : (isName tg || !(isTup v) || swNone sc tg v) = true) : swappedStores [tg] v env = pure none := by
  rcases Bool.or_eq_true_iff.mp h with h | h
  · cases tg <;> first | rfl | (cases v <;> first | rfl | cases h)
  · exact swNone_of hsc h
theorem each_of {tg : Expr} {c : Ck} {t : Tg} {env : Env} (h : tgB c t tg = true) : (assignEach [tg] env).map (·.2) = [assign tg env] := by
  cases tg <;> first | rfl | (cases t <;> simp [tgB, nestB] at h)
theorem par_of {c : Ck} {X : Cx} {W : WX} (o : Ok c X gf W k cf gc) (hk : X.env.scope.kind = .function) {x y : Str} {px py pt : Pos} {a b : Expr} {kt k2 : Nat} {pt2 : Pos} (h : parB c x px y py a b = true) :
    swappedStores [.Tuple [.Name x px, .Name y py] kt pt] (.Tuple [a, b] k2 pt2) X.env = pure (some [x, y]) := by
  unfold parB at h
  simp only [Bool.and_eq_true, Bool.not_eq_true'] at h
  obtain ⟨⟨⟨⟨⟨⟨⟨h1, h2⟩, h3⟩, h4⟩, h5⟩, h6⟩, h7⟩, h8⟩ := h
  have k1 : X.env.kindOf x = some .local := o.kind h1
  have k2 : X.env.kindOf y = some .local := o.kind h2
  have hb : X.env.blockKind = .function := by unfold Env.blockKind; rw [hk]; rfl
  have hxy : ¬ x = y := fun z => by subst z; simp at h4
  have hyx : ¬ y = x := fun z => hxy z.symm
  unfold swappedStores
  simp only [hb]
  refine (if_neg ?_).trans ((if_neg ?_).trans ((if_neg ?_).trans ((if_neg ?_).trans ((if_neg ?_).trans ?_))))
  · simp
  · intro hh
    obtain ⟨e, he, hs⟩ := List.any_eq_true.mp hh
    have hn : notStar e = true := by
      simp only [List.mem_cons, List.not_mem_nil, or_false] at he
      rcases he with rfl | rfl
      · exact h5
      · exact h6
    cases e <;> first | (cases hs; done) | (cases hn; done)
  · simp [k1, k2, Expr.pos, eq_of_beq h3, List.eraseDups_cons, hxy, hyx]
  · simpa using h7
  · simpa using h8
  · simp [k1, k2, Expr.pos, eq_of_beq h3]
theorem par3_of {c : Ck} {X : Cx} {W : WX} (o : Ok c X gf W k cf gc) (hk : X.env.scope.kind = .function) {x y z : Str} {px py pz pt : Pos} {a b d : Expr} {kt k2 : Nat} {pt2 : Pos} (h : par3B c x px y py z pz a b d = true) :
    swappedStores [.Tuple [.Name x px, .Name y py, .Name z pz] kt pt] (.Tuple [a, b, d] k2 pt2) X.env = pure (some [x, y, z]) := by
  unfold par3B at h
  simp only [Bool.and_eq_true, Bool.not_eq_true'] at h
  obtain ⟨⟨⟨⟨⟨⟨⟨⟨⟨⟨⟨⟨h1, h2⟩, h3⟩, h4⟩, h5⟩, h6⟩, h7⟩, h8⟩, h9⟩, h10⟩, h11⟩, h12⟩, h13⟩ := h
  have k1 : X.env.kindOf x = some .local := o.kind h1
  have k2 : X.env.kindOf y = some .local := o.kind h2
  have k3 : X.env.kindOf z = some .local := o.kind h3
  have hb : X.env.blockKind = .function := by unfold Env.blockKind; rw [hk]; rfl
  have hxy : ¬ x = y := fun z => by subst z; simp at h6
  have hyx : ¬ y = x := fun z => hxy z.symm
  have hxz : ¬ x = z := fun z => by subst z; simp at h7
  have hzx : ¬ z = x := fun z => hxz z.symm
  have hyz : ¬ y = z := fun z => by subst z; simp at h8
  have hzy : ¬ z = y := fun z => hyz z.symm
  unfold swappedStores
  simp only [hb]
  refine (if_neg ?_).trans ((if_neg ?_).trans ((if_neg ?_).trans ((if_neg ?_).trans ((if_neg ?_).trans ?_))))
  · simp
  · intro hh
    obtain ⟨e, he, hs⟩ := List.any_eq_true.mp hh
    have hn : notStar e = true := by
      simp only [List.mem_cons, List.not_mem_nil, or_false] at he
      rcases he with rfl | rfl | rfl
      · exact h9
      · exact h10
      · exact h11
    cases e <;> first | (cases hs; done) | (cases hn; done)
  · simp [k1, k2, k3, Expr.pos, eq_of_beq h4, eq_of_beq h5, List.eraseDups_cons, hxy, hyx, hxz, hzx, hyz, hzy]
  · simpa using h12
  · simpa using h13
  · simp [k1, k2, k3, Expr.pos, eq_of_beq h4, eq_of_beq h5]
end
end TB
set_option Elab.async false
set_option linter.all false
set_option maxRecDepth 100000
set_option maxHeartbeats 4000000
/-! TB12: statements, a table of defs, the law's end -/
namespace TB
open PySem PySem.Spec L2
open PyProof.Rows (envOfC)
section
variable {gf : Str → Option Addr} {k : Nat} {cf : Str → List D → M D} {gc : Str → Option D}
theorem asg_plain {c : Ck} {X : Cx} {W : WX} (o : Ok c X gf W k cf gc) {t : Tg} {e : E} {tg v : Expr} {p : Pos} (h : ((notComp v || isTup tg) && (isName tg || !(isTup v) || swNone c.sc tg v) && tgB c t tg && ckE c e v) = true) : SS X gf W (.Assign [tg] v p) (sAsg t (ev cf gc e)) := by
  obtain ⟨h, h2⟩ := band h
  obtain ⟨h, h3⟩ := band h
  obtain ⟨h, h4⟩ := band h
  exact ss_asg (sndE e v c X W o h2).1 (tg_of o h3) (swaps_of' h) (stores_of o.sc h4) (each_of h3)
theorem swaps_cell {e1 : Expr} {gens : List Comprehension} {scope : Scope} {p1 py : Pos} {y : Str} {l : Nat} {env : Env} (h : env.scope.names.lookup y = some .cell) : swapsWith (.ListComp e1 gens scope p1) (some (.Name y py)) l env = pure false := by
  have e : (env.kindOf y == some .local) = false := by unfold Env.kindOf; rw [h]; rfl
  unfold swapsWith
  dsimp only
  show pure _ = _
  rw [e]
  simp
theorem asg_sound {c : Ck} {X : Cx} {W : WX} (o : Ok c X gf W k cf gc) (hk : X.env.scope.kind = .function) {t : Tg} {e : E} {tg v : Expr} {p : Pos} (h : asgB c t e tg v = true) : SS X gf W (.Assign [tg] v p) (sAsg t (ev cf gc e)) := by
  unfold asgB at h
  split at h
  · rename_i i m own t2 it cd el y py e1 gens scope p1
    rcases Bool.or_eq_true_iff.mp h with h | h
    case inr =>
      obtain ⟨h, h2⟩ := band h
      obtain ⟨h1, h3⟩ := band h
      exact ss_asg (sndE _ _ c X W o h2).1 (tg_of o h3) (swaps_cell (l := p.line) (o.kind h1)) (stores_of (tg := .Name y py) o.sc rfl) (each_of h3)
    obtain ⟨h, h2⟩ := band h
    obtain ⟨h0, h3⟩ := band h
    have hy := of_decide_eq_true h0
    match gens, h2 with
    | [⟨tg2, iter, ifs, as⟩], h2 =>
      simp only [ckE] at h2
      obtain ⟨h2, q1⟩ := band h2
      obtain ⟨h2, q2⟩ := band h2
      obtain ⟨h2, q3⟩ := band h2
      obtain ⟨h2, q4⟩ := band h2
      obtain ⟨h2, q5⟩ := band h2
      obtain ⟨h2, q6⟩ := band h2
      obtain ⟨h2, q7⟩ := band h2
      have e8 := of_decide_eq_true h2
      subst e8
      unfold swB at h3
      obtain ⟨h3, w1⟩ := band h3
      obtain ⟨w2, w3⟩ := band h3
      have ob := fun s H C cl fp => o.blk s H scope cl C fp
      refine ss_setLc (own := own) o.calm (by rw [o.nN]; exact o.nd) (by rw [o.nN]; exact hy) (o.kind w2) (sw_true hk (o.kind w2) w3 (by simpa using w1)) (sndI it iter tg2 c X W o q4) (by rw [o.nN, o.sc]; exact blkOk_by q7) (fun i hi => ?_)
        (fun s H C cl fp => tg_of (ob s H C cl fp) q3) (fun s H C cl fp => sndC cd ifs _ _ _ (ob s H C cl fp) q2) (fun s H C cl fp => (sndE el e1 _ _ _ (ob s H C cl fp) q1).1) (fset_of q5)
      exact of_decide_eq_true (List.all_eq_true.mp q6 i (by cases t2 <;> exact hi))
    | [], h => simp [ckE] at h
    | _ :: _ :: _, h => simp [ckE] at h
  · exact asg_plain o h
theorem par_sound {c : Ck} {X : Cx} {W : WX} (o : Ok c X gf W k cf gc) (hk : X.env.scope.kind = .function) {i j : Nat} {a b : E} {tgs : List Expr} {v : Expr} {p : Pos} (h : (match asPar tgs v with
    | some (x, px, y, py, va, vb) => decide (c.N[i]? = some x) && decide (c.N[j]? = some y) && parB c x px y py va vb && ckE c a va && ckE c b vb
    | none => false) = true) : SS X gf W (.Assign tgs v p) (sPar i j (ev cf gc a) (ev cf gc b)) := by
  split at h
  · rename_i x px y py va vb hpar
    obtain ⟨kt, pt, k2, pt2, rfl, rfl⟩ := asPar_of hpar
    obtain ⟨h, h2⟩ := band h
    obtain ⟨h, h3⟩ := band h
    obtain ⟨h, h4⟩ := band h
    obtain ⟨h0, h5⟩ := band h
    have hx := of_decide_eq_true h0
    have hy := of_decide_eq_true h5
    have hp := h4
    unfold parB at h4
    simp only [Bool.and_eq_true, Bool.not_eq_true'] at h4
    obtain ⟨⟨⟨⟨⟨⟨⟨z1, z2⟩, z3⟩, z4⟩, z5⟩, z6⟩, z7⟩, z8⟩ := h4
    have hij : i ≠ j := fun z => by
      rw [← z, hx] at hy
      cases hy
      simp at z4
    exact ss_par o.calm (by rw [o.nN]; exact o.nd) (by rw [o.nN]; exact hx) (by rw [o.nN]; exact hy) hij (o.kind z1) (o.kind z2) (sndE a va c X W o h3).1 (sndE b vb c X W o h2).1 (par_of o hk hp) rfl (star_of z5) (star_of z6)
  · cases h
theorem dput_sound {c : Ck} {X : Cx} {W : WX} (o : Ok c X gf W k cf gc) {a b d : E} {tgs : List Expr} {v : Expr} {p : Pos} (h : (match asSub tgs with
    | some q => notComp v && ckE c a q.1 && ckE c b q.2 && ckE c d v
    | none => false) = true) : SS X gf W (.Assign tgs v p) (sDput (ev cf gc a) (ev cf gc b) (ev cf gc d)) := by
  split at h
  · rename_i q hq
    obtain ⟨pp, rfl⟩ := asSub_of hq
    obtain ⟨h, h2⟩ := band h
    obtain ⟨h, h3⟩ := band h
    obtain ⟨h, h4⟩ := band h
    exact ss_dput (by have := o.units; omega) (sndE a _ c X W o h4).1 (sndE b _ c X W o h3).1 (sndE d _ c X W o h2).1 (swaps_of h)
  · cases h
theorem fput_sound {c : Ck} {X : Cx} {W : WX} (o : Ok c X gf W k cf gc) {cl f : Str} {a d : E} {tgs : List Expr} {v : Expr} {p : Pos} (h : (match asFld f tgs with
    | some q => decide ((cl, f) ∈ c.flds) && ckE c a q && ckE c d v
    | none => false) = true) : SS X gf W (.Assign tgs v p) (sFput cl f (ev cf gc a) (ev cf gc d)) := by
  split at h
  · rename_i q hq
    obtain ⟨pp, rfl⟩ := asFld_of hq
    obtain ⟨h, h2⟩ := band h
    obtain ⟨h, h3⟩ := band h
    obtain ⟨C, q1, q2, q3⟩ := o.flds cl f (of_decide_eq_true h)
    exact ss_fput q1 q2 q3 (sndE a _ c X W o h3).1 (sndE d _ c X W o h2).1 (by cases v <;> rfl)
  · cases h
theorem par3_sound {c : Ck} {X : Cx} {W : WX} (o : Ok c X gf W k cf gc) (hk : X.env.scope.kind = .function) {i j l : Nat} {a b d : E} {tgs : List Expr} {v : Expr} {p : Pos} (h : (match asPar3 tgs v with
    | some q => decide (c.N[i]? = some q.x) && decide (c.N[j]? = some q.y) && decide (c.N[l]? = some q.z) && par3B c q.x q.px q.y q.py q.z q.pz q.a q.b q.d && ckE c a q.a && ckE c b q.b && ckE c d q.d
    | none => false) = true) : SS X gf W (.Assign tgs v p) (sPar3 i j l (ev cf gc a) (ev cf gc b) (ev cf gc d)) := by
  split at h
  · rename_i q hpar
    obtain ⟨kt, pt, k2, pt2, rfl, rfl⟩ := asPar3_of hpar
    obtain ⟨h, h2⟩ := band h
    obtain ⟨h, h3⟩ := band h
    obtain ⟨h, h4⟩ := band h
    obtain ⟨h, hp⟩ := band h
    obtain ⟨h, h5⟩ := band h
    obtain ⟨h0, h6⟩ := band h
    have hx := of_decide_eq_true h0
    have hy := of_decide_eq_true h6
    have hz := of_decide_eq_true h5
    have hp0 := hp
    unfold par3B at hp
    simp only [Bool.and_eq_true, Bool.not_eq_true'] at hp
    obtain ⟨⟨⟨⟨⟨⟨⟨⟨⟨⟨⟨⟨z1, z2⟩, z3⟩, z4⟩, z5⟩, z6⟩, z7⟩, z8⟩, z9⟩, z10⟩, z11⟩, z12⟩, z13⟩ := hp
    have hij : i ≠ j := fun z => by
      rw [← z, hx] at hy
      have := Option.some.inj hy
      rw [this] at z6; simp at z6
    have hil : i ≠ l := fun z => by
      rw [← z, hx] at hz
      have := Option.some.inj hz
      rw [this] at z7; simp at z7
    have hjl : j ≠ l := fun z => by
      rw [← z, hy] at hz
      have := Option.some.inj hz
      rw [this] at z8; simp at z8
    exact ss_par3 o.calm (by rw [o.nN]; exact o.nd) (by rw [o.nN]; exact hx) (by rw [o.nN]; exact hy) (by rw [o.nN]; exact hz) hij hil hjl (o.kind z1) (o.kind z2) (o.kind z3) (sndE a q.a c X W o h4).1 (sndE b q.b c X W o h3).1 (sndE d q.d c X W o h2).1 (par3_of o hk hp0) rfl (star_of z9) (star_of z10) (star_of z11)
  · cases h
theorem Ok.tr {c : Ck} {X : Cx} {W W' : WX} (o : Ok c X gf W k cf gc) (pn : List (Addr × Obj)) (xe : Value → Shared → Prop) (tk : Takes (X.tr pn xe) W') (own : PassesOwn (model X.prog X.w) X.A X.env xe) : Ok c (X.tr pn xe) gf W' k cf gc where
  nN := o.nN
  nd := o.nd
  sc := o.sc
  calm := o.calm
  room := o.room
  tk := tk
  own := own
  free := o.free
  room1 := o.room1
  fns := o.fns
  mts := o.mts
  mks := o.mks
  flds := o.flds
  con := o.con
  fnt := o.fnt
  exc := o.exc
  exm := o.exm
  dic := o.dic
theorem hd_is {c : Ck} {X : Cx} {W : WX} (o : Ok c X gf W k cf gc) {h : Hd} {s : List Stmt} (hc : ckHd c h s = true) : HdIs X h s := by
  cases h with
  | set i x =>
    simp only [ckHd] at hc
    split at hc
    · rename_i q hq
      obtain ⟨kk, p1, p2, p3, rfl⟩ := asSetS_of hq
      simp only [Bool.and_eq_true, decide_eq_true_eq] at hc
      obtain ⟨⟨⟨⟨h1, h2⟩, h3⟩, h4⟩, h5⟩ := hc
      subst h2
      exact ⟨q.1, kk, p1, p2, p3, rfl, by rw [o.nN]; exact o.nd, by rw [o.nN]; exact h1, o.kind h3, h4, h5⟩
    · cases hc
  | non => exact isRetN_of hc
theorem hs_ok {c : Ck} {X : Cx} {W : WX} (o : Ok c X gf W k cf gc) {known : List Str} : ∀ (hs : List (Str × Hd)) (hds : List ExceptHandler), (∀ x ∈ known, x ∈ c.exc) → ckHs c known hs hds = true → ∃ l, HsOk X gf known hds hs l
  | [], [], _, _ => ⟨[], .nil⟩
  | [], _ :: _, _, h => by simp [ckHs] at h
  | _ :: _, [], _, h => by simp [ckHs] at h
  | (x, h) :: hs, e :: es, hk, hc => by
    simp only [ckHs] at hc
    obtain ⟨h1, h2⟩ := band hc
    obtain ⟨l, hl⟩ := hs_ok o hs es hk h2
    split at h1
    · rename_i q hq
      obtain ⟨p1, p2, rfl⟩ := asEH_of hq
      simp only [Bool.and_eq_true, decide_eq_true_eq] at h1
      obtain ⟨⟨⟨e1, e2⟩, e3⟩, e4⟩ := h1
      subst e1
      obtain ⟨g1, g2, _⟩ := o.glob e3
      obtain ⟨C, eo⟩ := o.exc q.1 (hk _ e2)
      exact ⟨_, .cons e2 eo g1 g2 (hd_is o e4) hl⟩
    · cases h1
mutual
theorem sndS : ∀ (a : S) (s : Stmt) (c : Ck) (X : Cx) (W : WX), Ok c X gf W k cf gc → X.env.scope.kind = .function → X.stack = X.env :: X.outer → X.env.frame = some X.env.locals → ckS c a s = true → SS X gf W s (exS cf gc a)
  | .bad, s, c, X, W, o, hk, hst, hfr, h => ss_bad
  | .pass, s, c, X, W, o, hk, hst, hfr, h => by cases s <;> simp only [ckS, Bool.false_eq_true] at h; exact ss_pass
  | .brk, s, c, X, W, o, hk, hst, hfr, h => by cases s <;> simp only [ckS, Bool.false_eq_true] at h; exact ss_break
  | .cont, s, c, X, W, o, hk, hst, hfr, h => by cases s <;> simp only [ckS, Bool.false_eq_true] at h; exact ss_cont
  | .expr e, s, c, X, W, o, hk, hst, hfr, h => by
    cases s <;> simp only [ckS, Bool.false_eq_true] at h
    obtain ⟨h1, h2⟩ := band h
    exact ss_expr (sndE e _ c X W o h2).1 (swaps_of h1)
  | .ret e, s, c, X, W, o, hk, hst, hfr, h => by
    cases s with
    | Return v p =>
      cases v <;> simp only [ckS, Bool.false_eq_true] at h
      exact ss_ret (sndE e _ c X W o h).1
    | _ => simp only [ckS, Bool.false_eq_true] at h
  | .asg t e, s, c, X, W, o, hk, hst, hfr, h => by
    cases s with
    | Assign tgs v p =>
      match tgs, h with
      | [tg], h => simp only [ckS] at h; exact asg_sound o hk h
      | [], h => simp [ckS] at h
      | _ :: _ :: _, h => simp [ckS] at h
    | _ => simp only [ckS, Bool.false_eq_true] at h
  | .par i j a b, s, c, X, W, o, hk, hst, hfr, h => by
    cases s <;> simp only [ckS, Bool.false_eq_true] at h
    exact par_sound o hk h
  | .dput a b d, s, c, X, W, o, hk, hst, hfr, h => by
    cases s <;> simp only [ckS, Bool.false_eq_true] at h
    exact dput_sound o h
  | .fput cl f a d, s, c, X, W, o, hk, hst, hfr, h => by
    cases s <;> simp only [ckS, Bool.false_eq_true] at h
    exact fput_sound o h
  | .par3 i j l a b d, s, c, X, W, o, hk, hst, hfr, h => by
    cases s <;> simp only [ckS, Bool.false_eq_true] at h
    exact par3_sound o hk h
  | .ife q a b, s, c, X, W, o, hk, hst, hfr, h => by
    cases s <;> simp only [ckS, Bool.false_eq_true] at h
    obtain ⟨h1, h2⟩ := band h
    obtain ⟨h3, h4⟩ := band h1
    exact ss_if (sndE q _ c X W o h3).2 (sndSs a _ c X W o hk hst hfr h4) (sndSs b _ c X W o hk hst hfr h2)
  | .for_ t it b, s, c, X, W, o, hk, hst, hfr, h => by
    cases s with
    | For tg iter body orelse p =>
      cases orelse <;> simp only [ckS, Bool.false_eq_true] at h
      obtain ⟨h1, h2⟩ := band h
      obtain ⟨h3, h4⟩ := band h1
      obtain ⟨h5, h6⟩ := band h3
      exact ss_for o.own o.calm (sndI it iter tg c X W o h6) (tg_of o h4) (sndSs b _ c X W o hk hst hfr h2) (fset_of h5)
    | _ => simp only [ckS, Bool.false_eq_true] at h
  | .whl n q b, s, c, X, W, o, hk, hst, hfr, h => by
    cases s with
    | While e body orelse p =>
      cases orelse <;> simp only [ckS, Bool.false_eq_true] at h
      obtain ⟨h1, h2⟩ := band h
      exact ss_while o.own (sndE q _ c X W o h1).2 (sndSs b _ c X W o hk hst hfr h2)
    | _ => simp only [ckS, Bool.false_eq_true] at h
  | .raise x, s, c, X, W, o, hk, hst, hfr, h => by
    simp only [ckS] at h
    split at h
    · rename_i y hy
      obtain ⟨p1, p2, p3, rfl⟩ := asRaise_of hy
      simp only [Bool.and_eq_true, decide_eq_true_eq] at h
      obtain ⟨⟨rfl, h2⟩, h3⟩ := h
      obtain ⟨g1, g2, _⟩ := o.glob h2
      obtain ⟨C, e⟩ := o.exc x h3
      exact ss_raise o.calm o.tk (e.pmk g1 g2) e.gf
    · cases h
  | .try_ known b hs, s, c, X, W, o, hk, hst, hfr, h => by
    simp only [ckS] at h
    split at h
    · rename_i q hq
      obtain ⟨p, rfl⟩ := asTry_of hq
      simp only [Bool.and_eq_true, List.all_eq_true, decide_eq_true_eq] at h
      obtain ⟨⟨h1, h2⟩, h3⟩ := h
      obtain ⟨l, hl⟩ := hs_ok o hs (q.2.1 :: q.2.2) h2 h3
      exact ss_try hst hfr o.tk (fun W' pn xe tk own => sndSs b q.1 c (X.tr pn xe) W' (o.tr pn xe tk own) hk hst hfr h1) hl (fun x hx => o.exc x (h2 x hx)) (fun x hx y hy => o.exm x (h2 x hx) y (h2 y hy))
    · cases h
theorem sndSs : ∀ (a : Ss) (s : List Stmt) (c : Ck) (X : Cx) (W : WX), Ok c X gf W k cf gc → X.env.scope.kind = .function → X.stack = X.env :: X.outer → X.env.frame = some X.env.locals → ckSs c a s = true → SSs X gf W s (exSs cf gc a)
  | .nil, [], c, X, W, o, hk, hst, hfr, h => sss_nil
  | .nil, _ :: _, c, X, W, o, hk, hst, hfr, h => by simp [ckSs] at h
  | .cons _ _, [], c, X, W, o, hk, hst, hfr, h => by simp [ckSs] at h
  | .cons a as, s :: ss, c, X, W, o, hk, hst, hfr, h => by
    simp only [ckSs] at h
    obtain ⟨h1, h2⟩ := band h
    exact sss_cons (sndS a s c X W o hk hst hfr h1) (sndSs as ss c X W o hk hst hfr h2)
end
end
end TB
set_option Elab.async false
set_option linter.all false
set_option maxRecDepth 100000
set_option maxHeartbeats 4000000
/-! TB13: a table of defs; the law's end -/
namespace TB
open PySem PySem.Spec L2
open PyProof.Rows (envOfC)

/-- a def of the small language -/
structure Def where
  name : Str
  ps : List Str
  N : List Str
  body : Ss
abbrev Tab := List Def
def Tab.get (T : Tab) (f : Str) : Option Def := T.find? fun d => d.name == f
/-- the defs of a table, calls at most n deep -/
noncomputable def cfN (T : Tab) (gc : Str → Option D) : Nat → Str → List D → M D
  | 0, _ => fun _ => M.stuck
  | n + 1, f => match T.get f with
    | none => fun _ => M.stuck
    | some d => fnRun d.N.length (exSs (cfN T gc n) gc d.body)
/-- the classes of the text: fields; methods by class, name, name in the table; makers by class, name in the table -/
structure ClI where
  flds : List (Str × Str)
  mts : List (Str × Str × Str)
  mks : List (Str × Str)
  exc : List Str
def ClI.own (cl : ClI) (x : Str) : Bool := cl.mts.any (fun q => q.2.2 == x) || cl.mks.any (fun q => q.2 == x)
def Tab.fns (T : Tab) (cl : ClI) : List (Str × Nat) := (T.filter fun d => !cl.own d.name).map fun d => (d.name, d.ps.length)
def Tab.mts (T : Tab) (cl : ClI) : List (Str × Str × Str × Nat) := cl.mts.filterMap fun q => (T.get q.2.2).map fun d => (q.1, q.2.1, q.2.2, d.ps.length)
def Tab.mks (T : Tab) (cl : ClI) : List (Str × Str × Nat) := cl.mks.filterMap fun q => (T.get q.2).map fun d => (q.1, q.2, d.ps.length)
def Tab.ck (T : Tab) (cl : ClI) (free con : List Str) (N : List Str) (sc : Scope) : Ck := ⟨N, T.fns cl, T.mts cl, T.mks cl, cl.flds, free, con, sc, true, cl.exc⟩
theorem get_mem {T : Tab} {f : Str} {d : Def} (h : T.get f = some d) : d ∈ T ∧ d.name = f := by
  unfold Tab.get at h
  have h2 := List.find?_some h
  exact ⟨List.mem_of_find?_eq_some h, eq_of_beq h2⟩
def Tab.nd (T : Tab) : Bool := decide (T.map (·.name)).Nodup
/-- the scope of a def -/
def fscB (N ps : List Str) (sc : Scope) : Bool := (match sc.kind with | .function => true | _ => false) && !sc.isCoroutine && !sc.isGenerator && decide N.Nodup && decide (N.take ps.length = ps) && ps.all (fun x => kindB sc x .local || kindB sc x .cell) && sc.names.all (fun y => match y.2 with | .free => false | _ => true)
theorem fsc_of {N ps : List Str} {sc : Scope} (h : fscB N ps sc = true) : FnScope N ps sc := by
  unfold fscB at h
  simp only [Bool.and_eq_true, Bool.not_eq_true', decide_eq_true_eq, List.all_eq_true, Bool.or_eq_true] at h
  obtain ⟨⟨⟨⟨⟨⟨h1, h2⟩, h3⟩, h4⟩, h5⟩, h6⟩, h7⟩ := h
  refine ⟨?_, h2, h3, h4, h5, fun x hx => ?_, fun y hy e => ?_⟩
  · split at h1
    · assumption
    · cases h1
  · rcases h6 x hx with q | q
    · exact .inl (of_decide_eq_true q)
    · exact .inr (of_decide_eq_true q)
  · have := h7 y hy
    rw [e] at this
    cases this
/-- a def of the text, at a, is the def of the table -/
structure DefIs (T : Tab) (cl : ClI) (free con : List Str) (K : PySem.W.Frag) (gf : Str → Option Addr) (mg : Str → Option Value) (d : Def) (a : Addr) (fd : FuncData) : Prop where
  ex : ∃ (oc : Value) (od : Option Addr) (name qual : Str) (params : Arguments) (body : List Stmt) (scope : Scope) (dV kV doc pm : Value) (an : Option Addr) (cdv ct : Value) (osl : Array (Option Value)),
    fd = PySem.W.fnOf name qual params body scope dV kV doc pm an cdv ct ∧ K.lookup a = some ⟨oc, od, .func (PySem.W.fnOf name qual params body scope dV kV doc pm an cdv ct), osl⟩ ∧ PySem.W.codeIn K cdv qual = true ∧ fscB d.N d.ps scope = true ∧ ckSs (T.ck cl free con d.N scope) d.body body = true
  gl : cl.own d.name = false → PySem.W.keepIn K (.ref a) = true ∧ mg d.name = some (.ref a)
  mt : ∀ c m, (c, m, d.name) ∈ cl.mts → ∃ C, gf c = some C ∧ Cls K C ∧ Meth K C m a
  mkr : ∀ c, (c, d.name) ∈ cl.mks → ∃ C, gf c = some C ∧ mg c = some (.ref C) ∧ Mk K C a
  bd : ∀ us : List Value, us.length = d.ps.length → bindArgs fd ⟨us, []⟩ = pure (d.ps.zip us)
def ConOk (K : PySem.W.Frag) (gf : Str → Option Addr) (mg : Str → Option Value) (x : Str) (d : D) : Prop := ∃ v u, mg x = some u ∧ RelV v u ∧ ∀ H al be, RV K gf H al be d v
def DicsOk (K : PySem.W.Frag) (w : World) (gf : Str → Option Addr) (mg : Str → Option Value) (gc : Str → Option D) (con : List Str) : Prop := ∀ x, gkey x "" ∈ con → ∃ q, mg x = some (.ref q) ∧ ∀ z d, gc (gkey x z) = some d → ∃ v, KDct K w q z v ∧ ∀ H al be, RV K gf H al be d v
def ExcsOk (K : PySem.W.Frag) (gf : Str → Option Addr) (mg : Str → Option Value) (l : List Str) : Prop := (∀ x ∈ l, ∃ C, EOk K mg gf x C) ∧ ∀ x ∈ l, ∀ y ∈ l, ∀ C C', gf x = some C → gf y = some C' → PySem.W.exmOne K (.ref C) (.ref C') = some (decide (x = y))
theorem excs_nil {K : PySem.W.Frag} {gf : Str → Option Addr} {mg : Str → Option Value} : ExcsOk K gf mg [] := ⟨fun x h => (by cases h), fun x h => (by cases h)⟩
def excB (K : PySem.W.Frag) (x : Str) : Bool := PySem.W.excIn K (He.ga K x) [.type "ValueError", .type "Exception", .type "BaseException", .type "object"] "ValueError.__new__" && PySem.W.keepIn K (.ref (He.ga K x)) && (PySem.W.subIn K (.ref (He.ga K x)) (.type "BaseException") == some true) && (PySem.W.typeIn K (.ref (He.ga K x)) == some (.type "type"))
def exmB (K : PySem.W.Frag) (l : List Str) : Bool := l.all fun x => l.all fun y => PySem.W.exmOne K (.ref (He.ga K x)) (.ref (He.ga K y)) == some (decide (x = y))
def excL (l : List Str) (K : PySem.W.Frag) : Bool := l.all (excB K) && exmB K l
theorem excs_of {K : PySem.W.Frag} {mg : Str → Option Value} {l : List Str} (hg : ∀ x ∈ l, mg x = some (.ref (He.ga K x))) (h : excL l K = true) : ExcsOk K (fun x => some (He.ga K x)) mg l := by
  unfold excL at h
  obtain ⟨h1, h2⟩ := band h
  refine ⟨fun x hx => ?_, fun x hx y hy C C' e1 e2 => ?_⟩
  · have := List.all_eq_true.mp h1 x hx
    unfold excB at this
    simp only [Bool.and_eq_true, beq_iff_eq] at this
    exact ⟨_, rfl, hg x hx, this.1.1.1, this.1.1.2, this.1.2, this.2⟩
  · cases e1; cases e2
    have := List.all_eq_true.mp (List.all_eq_true.mp h2 x hx) y hy
    exact eq_of_beq this
def hasZ (x : Str) : Bool := x.cps.toList.contains 0
theorem gkey_has (x z : Str) : hasZ (gkey x z) = true := by simp [hasZ, gkey]
theorem str_ext {a b : Str} (h : a.cps.toList = b.cps.toList) : a = b := by
  cases a; cases b
  simp at h
  simp [h]
theorem gkey_inj {x z z' : Str} (h : gkey x z = gkey x z') : z = z' := by
  have := congrArg (fun s => s.cps.toList) h
  simp [gkey] at this
  exact str_ext (by rw [this])
theorem gkey_inj0 {x x' : Str} (h : gkey x "" = gkey x' "") : x = x' := by
  have := congrArg (fun s => s.cps.toList) h
  simp [gkey] at this
  exact str_ext (by simpa using this)
theorem dics_none {K : PySem.W.Frag} {w : World} {gf : Str → Option Addr} {mg : Str → Option Value} {gc : Str → Option D} {con : List Str} (h : ∀ y ∈ con, hasZ y = false) : DicsOk K w gf mg gc con := by
  intro x hx
  have := h _ hx
  rw [gkey_has] at this
  cases this
section
variable {T : Tab} {free con : List Str} {K : PySem.W.Frag} {mg : Str → Option Value} {base : Heap} {P : Program} {w : World} {gf : Str → Option Addr} {gc : Str → Option D}
theorem get_of (hn : T.nd = true) {d : Def} (h : d ∈ T) : T.get d.name = some d := by
  unfold Tab.nd at hn
  replace hn := of_decide_eq_true hn
  unfold Tab.get
  induction T with
  | nil => cases h
  | cons e T ih =>
    rw [List.map_cons, List.nodup_cons] at hn
    rw [List.find?_cons]
    rcases List.mem_cons.mp h with rfl | h
    · simp
    · have : e.name ≠ d.name := fun z => hn.1 (z ▸ List.mem_map_of_mem h)
      have : (e.name == d.name) = false := beq_eq_false_iff_ne.mpr this
      rw [this]
      exact ih h hn.2
theorem all_ok {cl : ClI} (hn : T.nd = true) (hd : ∀ d ∈ T, ∃ a fd, DefIs T cl free con K gf mg d a fd) (hfl : ∀ c f, (c, f) ∈ cl.flds → ∃ C, gf c = some C ∧ Cls K C ∧ NoAttr K C f) (hf : ∀ x ∈ free, mg x = none) (hc : ∀ x ∈ con, ∀ d, gc x = some d → ConOk K gf mg x d) (hdc : DicsOk K w gf mg gc con) (hex : ExcsOk K gf mg cl.exc) :
    ∀ n, ∀ d ∈ T, ∀ a fd, DefIs T cl free con K gf mg d a fd → FnOk P w K mg base (L2.CX P w) (2 * n) a fd d.ps (spF K gf d.ps.length (cfN T gc n d.name))
  | 0, d, h, a, fd, di => by
    refine ⟨fun vs H Q E q => q.1, fun A outer s H args us vs Q E hr he hb hv hs => ?_⟩
    obtain ⟨_, al, be, st, ds, S, r, p⟩ := hs
    exact p.elim
  | n + 1, d, h, a, fd, di => by
    obtain ⟨oc, od, name, qual, params, body, scope, dV, kV, doc, pm, an, cdv, ct, osl, rfl, h1, h2, h6, h7⟩ := di.ex
    have S := fsc_of h6
    have e : cfN T gc (n + 1) d.name = fnRun d.N.length (exSs (cfN T gc n) gc d.body) := by
      show (match T.get d.name with | none => fun _ => M.stuck | some d => fnRun d.N.length (exSs (cfN T gc n) gc d.body)) = _
      rw [get_of hn h]
    rw [e]
    refine FnOk.mono (j := 2 * n + 1 + 1) (fn_sound h1 h2 S fun A outer s H E hr => ?_) (by omega)
    refine sndSs (k := 2 * n) d.body body (T.ck cl free con d.N scope) _ _ ?_ S.kind rfl rfl h7
    refine ⟨rfl, S.nd, rfl, rfl, hr.mono (by omega), takes_of rfl rfl rfl rfl, passes_of rfl, hf, hr, fun f m hm => ?_, fun c m q k hm => ?_, fun c q k hm => ?_, hfl, hc, fun _ _ => rfl, hex.1, hex.2, hdc⟩
    · obtain ⟨d2, hd2, e2⟩ := List.mem_map.mp hm
      obtain ⟨hd2, ho⟩ := List.mem_filter.mp hd2
      cases e2
      obtain ⟨a2, fd2, di2⟩ := hd d2 hd2
      obtain ⟨g1, g2⟩ := di2.gl (by simpa using ho)
      exact ⟨a2, fd2, d2.ps, rfl, g2, g1, Binds.all di2.bd, all_ok hn hd hfl hf hc hdc hex n d2 hd2 a2 fd2 di2⟩
    · obtain ⟨⟨c', m', q'⟩, hq, e2⟩ := List.mem_filterMap.mp hm
      obtain ⟨d2, hg, e3⟩ := Option.map_eq_some_iff.mp e2
      obtain ⟨hd2, hnm⟩ := get_mem hg
      cases e3
      obtain ⟨a2, fd2, di2⟩ := hd d2 hd2
      obtain ⟨C, g1, g2, g3⟩ := di2.mt c' m' (by rw [hnm]; exact hq)
      have F := all_ok hn hd hfl hf hc hdc hex n d2 hd2 a2 fd2 di2
      rw [hnm] at F
      exact ⟨C, a2, fd2, d2.ps, g1, g2, g3, rfl, Binds.all di2.bd, F⟩
    · obtain ⟨⟨c', q'⟩, hq, e2⟩ := List.mem_filterMap.mp hm
      obtain ⟨d2, hg, e3⟩ := Option.map_eq_some_iff.mp e2
      obtain ⟨hd2, hnm⟩ := get_mem hg
      cases e3
      obtain ⟨a2, fd2, di2⟩ := hd d2 hd2
      obtain ⟨C, g1, g2, g3⟩ := di2.mkr c' (by rw [hnm]; exact hq)
      have F := all_ok hn hd hfl hf hc hdc hex n d2 hd2 a2 fd2 di2
      rw [hnm] at F
      exact ⟨C, a2, fd2, d2.ps, g1, g2, g3, rfl, Binds.all di2.bd, F⟩
/-- the law -/
theorem law_sp {n : Nat} {K : PySem.W.Frag} (hpure : ∀ ns : List Int, ns.length ≤ 63 → ∃ st, cfN T gc n "law" [.scr ns] [] = some (.ok (.bl true), st)) (H : Hp) (a : Addr) (ns : List Int) (hl : ns.length ≤ 63) (hO : Only H) (hS : SqL K H a (ns.map V.int)) :
    spF K gf 1 (cfN T gc n "law") [.ref a] H (fun v _ => v = .bl true) fun _ _ _ => False := by
  obtain ⟨st, e⟩ := hpure ns hl
  refine ⟨rfl, [], [], [], [.scr ns], ⟨rfl, by simp, (fun b hb => by cases hb), (fun b hb => by cases hb), (fun i o a h => by simp at h)⟩, .cons (.scr ?_ ?_) .nil, ?_⟩
  · rcases hS with (h | h) | h
    · rcases hO a with z | ⟨ob, xs, z⟩ <;> (rw [h] at z; cases z)
    · exact .inl h
    · exact .inr h
  · exact Nat.le_trans hl (by decide)
  · rw [e]
    intro H1 al1 _ _ v r
    exact r.bl_inv
end
end TB
namespace TB
open PySem PySem.Spec L2
def ClI.notM (cl : ClI) (x : Str) : Bool := cl.mts.all (fun q => !decide (q.2.2 = x)) && cl.mks.all (fun q => !decide (q.2 = x))
theorem notM_of {cl : ClI} {x : Str} (h : cl.notM x = true) : (∀ c m, (c, m, x) ∉ cl.mts) ∧ ∀ c, (c, x) ∉ cl.mks := by
  unfold ClI.notM at h
  simp only [Bool.and_eq_true, List.all_eq_true, Bool.not_eq_true', decide_eq_false_iff_not] at h
  exact ⟨fun c m hm => h.1 _ hm rfl, fun c hm => h.2 _ hm rfl⟩
section
variable {T : Tab} {cl : ClI} {free con : List Str} {K : PySem.W.Frag} {gf : Str → Option Addr} {mg : Str → Option Value} {d : Def} {x qual : Str} {params : Arguments} {body : List Stmt} {scope : Scope} {f : Addr} {fd : FuncData}
theorem defIs_of (F : FunD K x qual params body scope [] [] f fd) (g : mg d.name = some (.ref f))
    (hb : ∀ (kV doc pm : Value) (an : Option Addr) (cdv ct : Value) (us : List Value), us.length = d.ps.length → bindArgs (PySem.W.fnOf x qual params body scope .none kV doc pm an cdv ct) ⟨us, []⟩ = pure (d.ps.zip us))
    (hc : (fscB d.N d.ps scope && ckSs (T.ck cl free con d.N scope) d.body body) = true) (hm : cl.notM d.name = true) : ∃ a fd, DefIs T cl free con K gf mg d a fd := by
  obtain ⟨h1, h2⟩ := band hc
  obtain ⟨m1, m2⟩ := notM_of hm
  obtain ⟨oc, od, dV, kV, doc, pm, an, cdv, ct, osl, rfl, lk, hcd, hD, hK⟩ := F.ex
  rcases hD with ⟨_, rfl⟩ | ⟨z, _⟩
  · exact ⟨f, _, ⟨oc, od, x, qual, params, body, scope, .none, kV, doc, pm, an, cdv, ct, osl, rfl, lk, hcd, h1, h2⟩, fun _ => ⟨F.kp, g⟩, fun c m h => absurd h (m1 c m), fun c h => absurd h (m2 c), hb kV doc pm an cdv ct⟩
  · exact absurd rfl z
def ClI.oneM (cl : ClI) (c m x : Str) : Bool := cl.own x && cl.mts.all (fun q => !decide (q.2.2 = x) || (decide (q.1 = c) && decide (q.2.1 = m))) && cl.mks.all (fun q => !decide (q.2 = x))
theorem defIs_meth {c m : Str} {C : Addr} (F : FunD K x qual params body scope [] [] f fd) (g1 : gf c = some C) (g2 : Cls K C) (g3 : Meth K C m f)
    (hb : ∀ (kV doc pm : Value) (an : Option Addr) (cdv ct : Value) (us : List Value), us.length = d.ps.length → bindArgs (PySem.W.fnOf x qual params body scope .none kV doc pm an cdv ct) ⟨us, []⟩ = pure (d.ps.zip us))
    (hc : (fscB d.N d.ps scope && ckSs (T.ck cl free con d.N scope) d.body body) = true) (hm : cl.oneM c m d.name = true) : ∃ a fd, DefIs T cl free con K gf mg d a fd := by
  obtain ⟨h1, h2⟩ := band hc
  unfold ClI.oneM at hm
  simp only [Bool.and_eq_true, List.all_eq_true, Bool.not_eq_true', Bool.or_eq_true, decide_eq_false_iff_not, decide_eq_true_eq] at hm
  obtain ⟨⟨m0, m1⟩, m2⟩ := hm
  obtain ⟨oc, od, dV, kV, doc, pm, an, cdv, ct, osl, rfl, lk, hcd, hD, hK⟩ := F.ex
  rcases hD with ⟨_, rfl⟩ | ⟨z, _⟩
  · refine ⟨f, _, ⟨oc, od, x, qual, params, body, scope, .none, kV, doc, pm, an, cdv, ct, osl, rfl, lk, hcd, h1, h2⟩, (fun z => by rw [m0] at z; cases z), (fun c' m' h => ?_), (fun c' h => absurd rfl (m2 (c', d.name) h)), hb kV doc pm an cdv ct⟩
    rcases m1 (c', m', d.name) h with z | ⟨e1, e2⟩
    · exact absurd rfl z
    · cases e1; cases e2; exact ⟨C, g1, g2, g3⟩
  · exact absurd rfl z
def ClI.oneK (cl : ClI) (c x : Str) : Bool := cl.own x && cl.mts.all (fun q => !decide (q.2.2 = x)) && cl.mks.all (fun q => !decide (q.2 = x) || decide (q.1 = c))
theorem defIs_init {c : Str} {C : Addr} (F : FunD K x qual params body scope [] [] f fd) (g1 : gf c = some C) (g2 : mg c = some (.ref C)) (g3 : Mk K C f)
    (hb : ∀ (kV doc pm : Value) (an : Option Addr) (cdv ct : Value) (us : List Value), us.length = d.ps.length → bindArgs (PySem.W.fnOf x qual params body scope .none kV doc pm an cdv ct) ⟨us, []⟩ = pure (d.ps.zip us))
    (hc : (fscB d.N d.ps scope && ckSs (T.ck cl free con d.N scope) d.body body) = true) (hm : cl.oneK c d.name = true) : ∃ a fd, DefIs T cl free con K gf mg d a fd := by
  obtain ⟨h1, h2⟩ := band hc
  unfold ClI.oneK at hm
  simp only [Bool.and_eq_true, List.all_eq_true, Bool.not_eq_true', Bool.or_eq_true, decide_eq_false_iff_not, decide_eq_true_eq] at hm
  obtain ⟨⟨m0, m1⟩, m2⟩ := hm
  obtain ⟨oc, od, dV, kV, doc, pm, an, cdv, ct, osl, rfl, lk, hcd, hD, hK⟩ := F.ex
  rcases hD with ⟨_, rfl⟩ | ⟨z, _⟩
  · refine ⟨f, _, ⟨oc, od, x, qual, params, body, scope, .none, kV, doc, pm, an, cdv, ct, osl, rfl, lk, hcd, h1, h2⟩, (fun z => by rw [m0] at z; cases z), (fun c' m' h => absurd rfl (m1 (c', m', d.name) h)), (fun c' h => ?_), hb kV doc pm an cdv ct⟩
    rcases m2 (c', d.name) h with z | e1
    · exact absurd rfl z
    · cases e1; exact ⟨C, g1, g2, g3⟩
  · exact absurd rfl z
end
theorem con_int {K : PySem.W.Frag} {gf : Str → Option Addr} {mg : Str → Option Value} {x : Str} {i : Int} (h : ∃ t, mg x = some (.int i t)) : ConOk K gf mg x (.int i) :=
  let ⟨t, h⟩ := h; ⟨.int i, .int i t, h, ⟨t, rfl⟩, fun _ _ _ => .int i⟩
theorem con_str {K : PySem.W.Frag} {gf : Str → Option Addr} {mg : Str → Option Value} {x z : Str} (h : ∃ t, mg x = some (.str z t)) (h1 : PyData.strOk z = true) (h2 : z.length ≤ sizeLine) : ConOk K gf mg x (.str z) :=
  let ⟨t, h⟩ := h; ⟨.str z, .str z t, h, ⟨t, rfl⟩, fun _ _ _ => .str h1 h2⟩
end TB
namespace L2
open PySem PySem.Spec PyProof.Rows
theorem TBwalk {l : PySem.W.OpenLaw} {n k : Nat} {q : Program} {loose : List Str} {XP : (Str → Option Value) → Heap → Prop} {YP : World → Heap → Prop} {d : DefRec} {x : Str}
    (hn : l.most = some n) (hn2 : n ≤ sizeLine) (hdf : d.params.defaults = []) (hr : Room k callerA)
    (F : ∀ (w : World) (mg : Str → Option Value) (fa : Addr) (h : Heap), YP w h → h.Ns mainGlobals mg → mg d.name = some (.ref fa) →
      ∃ (K : PySem.W.Frag) (fd : FuncData) (sp : Sp), K.In h ∧ (∀ (s : Shared) (u : Value), BindsTo s fd ⟨[u], []⟩ [(x, u)]) ∧
        (∀ (H : Hp) (a : Addr) (ns : List Int), ns.length ≤ n → Only H → SqL K H a (ns.map V.int) → sp [.ref a] H (fun v _ => v = .bl true) fun _ _ _ => False) ∧
        ∀ base : Heap, K.In base → base.Ns mainGlobals mg → FnOk l.prog w K mg base (L2.CX l.prog w) k fa fd [x] sp) :
    PySem.W.WalkO q loose XP YP l.row.toRowW d [] (fun f vs => PySem.call f vs) := by
  refine Att.attach_call hn hdf fun w s₀ s₁ mg mb fa o pm cd doc a vs ns G Y ho hd hcd hmg hobj hints hlen hg => ?_
  obtain ⟨K, fd, sp, KX, hb, hsp, hF⟩ := F w mg fa _ Y G.T.g hmg
  exact law_call KX G.T.g G.T.b G.T.builtins G.T.nolimit hg hobj hints (Nat.le_trans hlen hn2) hr hF hb (fun H hO hS => hsp H a ns hlen hO hS) fun H e s' h => by
    obtain ⟨_, _, _, _, _, _, _, _, _, _, _, _, z⟩ := h
    exact z
theorem TBroom {n : Nat} (hn : n ≤ 100) : Room (2 * n) callerA := Room.mono (k := 200) ⟨rfl, by decide, by decide⟩ (by omega)
end L2
set_option Elab.async false
set_option linter.all false
set_option maxRecDepth 100000
set_option maxHeartbeats 4000000
/-! TH: the head of a law whose top has written dicts and tuples -/
namespace TB
open PySem PySem.Spec L2
def obsVG (n : Nat) (fa : List He.Fa) (fn : List He.DefD) (ts : List He.Tab) (ex : PySem.W.Frag → Bool) (g : Addr → Option Obj) : He.AlT × Bool :=
  (He.obsT fa fn ts (He.frG g (He.asD g n)), ex (He.frG g (He.asD g n)))
def hookV (n : Nat) (fa : List He.Fa) (fn : List He.DefD) (ts : List He.Tab) (ex : PySem.W.Frag → Bool) : PySem.W.Hook where
  α := He.AlT × Bool
  obs := fun s => obsVG n fa fn ts ex s.heap.get?
  val := fun w => (He.valT fn ts w, true)
  says := fun w h => ∃ K : PySem.W.Frag, K.In h ∧ He.SaysT fa fn ts w K ∧ ex K = true
  of := fun _ _ e => ⟨_, He.frG_in, congrArg Prod.fst e, congrArg Prod.snd e⟩
  keeps := fun _ _ _ ⟨K, hK, c, d⟩ k => ⟨K, PySem.W.Frag.In.keeps hK k, c, d⟩
theorem obsVG_eq {n : Nat} {fa : List He.Fa} {fn : List He.DefD} {ts : List He.Tab} {ex : PySem.W.Frag → Bool} {g : Addr → Option Obj} {s : Shared} (h : ∀ a, g a = s.heap.get? a) : obsVG n fa fn ts ex g = (hookV n fa fn ts ex).obs s := by
  have e : g = s.heap.get? := funext h
  rw [e] <;> rfl
def wF (w : World) (b : Bool) : World := { w with params := { w.params with followText := fun r => bif r == "special-get-raises" then b else w.params.followText r } }
theorem wF_eq (w : World) : w = wF w (w.params.followText "special-get-raises") := by
  obtain ⟨d, p⟩ := w
  unfold wF
  have e : (fun r => bif r == "special-get-raises" then p.followText "special-get-raises" else p.followText r) = p.followText := by
    funext r
    cases h : r == "special-get-raises" with
    | true => rw [eq_of_beq h]; rfl
    | false => rfl
  show (⟨d, p⟩ : World) = ⟨d, { p with followText := _ }⟩
  rw [e]
theorem lookup_mem {α : Type} {x : Str} {d : α} : ∀ {l : List (Str × α)}, l.lookup x = some d → (x, d) ∈ l
  | [], h => by cases h
  | (y, e) :: l, h => by
    rw [List.lookup_cons] at h
    cases q : x == y with
    | true => rw [q] at h; cases h; rw [eq_of_beq q]; exact List.mem_cons_self
    | false => rw [q] at h; exact List.mem_cons_of_mem _ (lookup_mem h)
/-- a tuple of texts of the top -/
def tupB (x : Str) (ws : List Str) (K : PySem.W.Frag) : Bool := (match K.lookup (He.ga K x) with
  | some ⟨c, _, .seq its _, _⟩ => decide (c = .type "tuple") && decide (its.size ≤ 1000) && He.relAll (ws.map V.str) its.toList
  | _ => false) && ws.all fun z => PyData.strOk z && decide (z.length ≤ 1000)
theorem con_tup {K : PySem.W.Frag} {gf : Str → Option Addr} {mg : Str → Option Value} {x : Str} {ws : List Str} (h : mg x = some (.ref (He.ga K x))) (hb : tupB x ws K = true) : ConOk K gf mg x (.tup (ws.map D.str)) := by
  unfold tupB at hb
  obtain ⟨h1, h2⟩ := band hb
  have hok : ∀ z ∈ ws, PyData.strOk z = true ∧ z.length ≤ sizeLine := fun z hz => by
    have := List.all_eq_true.mp h2 z hz
    simp only [Bool.and_eq_true, decide_eq_true_eq] at this
    refine ⟨this.1, Nat.le_trans this.2 ?_⟩
    rw [sizeLine_eq]; omega
  split at h1
  · rename_i c dd its n sl hl
    obtain ⟨h1, h3⟩ := band h1
    obtain ⟨h1, h4⟩ := band h1
    have e := of_decide_eq_true h1
    have hz := of_decide_eq_true h4
    subst e
    have hv := He.relAll_ok h3
    have hlen : ws.length ≤ sizeLine := by
      have h5 := hv.length
      have h7 : its.toList.length = its.size := Array.length_toList
      have h8 : (ws.map V.str).length = ws.length := List.length_map ..
      have h6 := sizeLine_eq
      omega
    refine ⟨.ref (He.ga K x), .ref (He.ga K x), h, rfl, fun H al be => .tup (vs := ws.map V.str) (.inr ⟨_, its, n, hl, rfl, rfl, by rw [sizeLine_eq]; omega, hv⟩) (rvs_strs hok) (by rw [List.length_map]; exact hlen)⟩
  · cases h1
end TB
set_option Elab.async false
set_option linter.all false
set_option maxRecDepth 100000
set_option maxHeartbeats 0
namespace TBP
open PySem PySem.Spec L2 TB
def b_is_word : Def := ⟨"is_word", ["thing"], ["thing", "sign"],
  (.cons (.ret (.band (.cons (.isi .str (.var 0)) (.cons (.chain .LtE .LtE (.int 1) (.blt .len (.var 0)) (.glob "WORD_MOST")) (.cons (.blt .all (.lc false [("sign", 1)] (.one 1) (.seq (.var 0)) .none (.cmp .In (.var 1) (.glob "LETTERS")))) .nil)))))
  .nil)⟩

def b_text_of : Def := ⟨"text_of", ["wish"], ["wish", "sign"],
  (.cons (.ife (.cmp .Eq (.idx (.var 0) (.int 0)) (.str "mark"))
   (.cons (.ret (.idx (.var 0) (.int 1)))
   .nil)
   .nil)
  (.cons (.ife (.cmp .Eq (.idx (.var 0) (.int 0)) (.str "name"))
   (.cons (.ret (.bin (.add false) (.str "~") (.idx (.var 0) (.int 1))))
   .nil)
   .nil)
  (.cons (.ife (.cmp .Eq (.idx (.var 0) (.int 0)) (.str "not"))
   (.cons (.ret (.bin (.add false) (.str "!") (.call "text_of" 1 (.cons (.idx (.var 0) (.int 1)) .nil))))
   .nil)
   .nil)
  (.cons (.asg (.one 1) (.idx (.dsp [.inr "and", .inr "or"] (.cons (.str "&") (.cons (.str "|") .nil))) (.idx (.var 0) (.int 0))))
  (.cons (.ret (.bin (.add false) (.bin (.add false) (.bin (.add false) (.bin (.add false) (.str "(") (.call "text_of" 1 (.cons (.idx (.var 0) (.int 1)) .nil))) (.var 1)) (.call "text_of" 1 (.cons (.idx (.var 0) (.int 2)) .nil))) (.str ")")))
  .nil)))))⟩

def b_Reader_init : Def := ⟨"Reader.__init__", ["self", "text"], ["self", "text"],
  (.cons (.fput "Reader" "text" (.var 0) (.var 1))
  (.cons (.fput "Reader" "at" (.var 0) (.int 0))
  .nil))⟩

def b_Reader_sign : Def := ⟨"Reader.sign", ["self"], ["self"],
  (.cons (.ret (.slc false (.fld "Reader" "text" (.var 0)) (.some (.fld "Reader" "at" (.var 0))) (.some (.bin (.add false) (.fld "Reader" "at" (.var 0)) (.int 1)))))
  .nil)⟩

def b_Reader_pass_sign : Def := ⟨"Reader.pass_sign", ["self", "signs"], ["self", "signs", "found"],
  (.cons (.asg (.one 2) (.meth "Reader" "sign" "Reader.sign" 1 (.var 0) .nil))
  (.cons (.ife (.bor (.cons (.cmp .Eq (.var 2) (.str "")) (.cons (.cmp .NotIn (.var 2) (.var 1)) .nil)))
   (.cons (.raise "NoText")
   .nil)
   .nil)
  (.cons (.fput "Reader" "at" (.var 0) (.bin (.add true) (.fld "Reader" "at" (.var 0)) (.int 1)))
  (.cons (.ret (.var 2))
  .nil))))⟩

def b_Reader_word : Def := ⟨"Reader.word", ["self"], ["self", "first"],
  (.cons (.asg (.one 1) (.fld "Reader" "at" (.var 0)))
  (.cons (.whl 10000 (.chain .LtE .LtE (.str "a") (.meth "Reader" "sign" "Reader.sign" 1 (.var 0) .nil) (.str "z"))
   (.cons (.fput "Reader" "at" (.var 0) (.bin (.add true) (.fld "Reader" "at" (.var 0)) (.int 1)))
   .nil))
  (.cons (.ife (.not (.call "is_word" 1 (.cons (.slc false (.fld "Reader" "text" (.var 0)) (.some (.var 1)) (.some (.fld "Reader" "at" (.var 0)))) .nil)))
   (.cons (.raise "NoText")
   .nil)
   .nil)
  (.cons (.ret (.slc false (.fld "Reader" "text" (.var 0)) (.some (.var 1)) (.some (.fld "Reader" "at" (.var 0)))))
  .nil))))⟩

def b_Reader_wish : Def := ⟨"Reader.wish", ["self", "deep"], ["self", "deep", "one", "sign", "other"],
  (.cons (.ife (.cmp .Eq (.var 1) (.int 0))
   (.cons (.raise "NoText")
   .nil)
   .nil)
  (.cons (.ife (.cmp .Eq (.meth "Reader" "sign" "Reader.sign" 1 (.var 0) .nil) (.str "!"))
   (.cons (.fput "Reader" "at" (.var 0) (.bin (.add true) (.fld "Reader" "at" (.var 0)) (.int 1)))
   (.cons (.ret (.tup (.cons (.str "not") (.cons (.meth "Reader" "wish" "Reader.wish" 2 (.var 0) (.cons (.bin .sub (.var 1) (.int 1)) .nil)) .nil))))
   .nil))
   .nil)
  (.cons (.ife (.cmp .Eq (.meth "Reader" "sign" "Reader.sign" 1 (.var 0) .nil) (.str "~"))
   (.cons (.fput "Reader" "at" (.var 0) (.bin (.add true) (.fld "Reader" "at" (.var 0)) (.int 1)))
   (.cons (.ret (.tup (.cons (.str "name") (.cons (.meth "Reader" "word" "Reader.word" 1 (.var 0) .nil) .nil))))
   .nil))
   .nil)
  (.cons (.ife (.cmp .NotEq (.meth "Reader" "sign" "Reader.sign" 1 (.var 0) .nil) (.str "("))
   (.cons (.ret (.tup (.cons (.str "mark") (.cons (.meth "Reader" "word" "Reader.word" 1 (.var 0) .nil) .nil))))
   .nil)
   .nil)
  (.cons (.fput "Reader" "at" (.var 0) (.bin (.add true) (.fld "Reader" "at" (.var 0)) (.int 1)))
  (.cons (.asg (.one 2) (.meth "Reader" "wish" "Reader.wish" 2 (.var 0) (.cons (.bin .sub (.var 1) (.int 1)) .nil)))
  (.cons (.asg (.one 3) (.meth "Reader" "pass_sign" "Reader.pass_sign" 2 (.var 0) (.cons (.str "&|") .nil)))
  (.cons (.asg (.one 4) (.meth "Reader" "wish" "Reader.wish" 2 (.var 0) (.cons (.bin .sub (.var 1) (.int 1)) .nil)))
  (.cons (.expr (.meth "Reader" "pass_sign" "Reader.pass_sign" 2 (.var 0) (.cons (.str ")") .nil)))
  (.cons (.ret (.tup (.cons (.idx (.dsp [.inr "&", .inr "|"] (.cons (.str "and") (.cons (.str "or") .nil))) (.var 3)) (.cons (.var 2) (.cons (.var 4) .nil)))))
  .nil))))))))))⟩

def b_read : Def := ⟨"read", ["text"], ["text", "reader", "found"],
  (.cons (.asg (.one 1) (.mk "Reader" "Reader.__init__" 2 (.cons (.var 0) .nil)))
  (.cons (.asg (.one 2) (.meth "Reader" "wish" "Reader.wish" 2 (.var 1) (.cons (.glob "DEEP_MOST") .nil)))
  (.cons (.ife (.cmp .NotEq (.fld "Reader" "at" (.var 1)) (.blt .len (.var 0)))
   (.cons (.raise "NoText")
   .nil)
   .nil)
  (.cons (.ret (.var 2))
  .nil))))⟩

def b_law_same : Def := ⟨"_law_same", ["got", "due"], ["got", "due", "one", "other"],
  (.cons (.ife (.cmp .Is (.var 1) .non)
   (.cons (.ret (.cmp .Is (.var 0) .non))
   .nil)
   .nil)
  (.cons (.ife (.isi .bool (.var 1))
   (.cons (.ret (.band (.cons (.isi .bool (.var 0)) (.cons (.cmp .Eq (.var 0) (.var 1)) .nil))))
   .nil)
   .nil)
  (.cons (.ife (.isi .tuple (.var 1))
   (.cons (.ife (.bor (.cons (.not (.isi .tuple (.var 0))) (.cons (.cmp .NotEq (.blt .len (.var 0)) (.blt .len (.var 1))) .nil)))
    (.cons (.ret (.bl false))
    .nil)
    .nil)
   (.cons (.ret (.blt .all (.lc false [("one", 2), ("other", 3)] (.tup [2, 3]) (.zip (.var 0) (.var 1)) .none (.call "_law_same" 2 (.cons (.var 2) (.cons (.var 3) .nil))))))
   .nil))
   .nil)
  (.cons (.ife (.isi .str (.var 1))
   (.cons (.ret (.band (.cons (.isi .str (.var 0)) (.cons (.cmp .Eq (.var 0) (.var 1)) .nil))))
   .nil)
   .nil)
  (.cons (.ret (.band (.cons (.isi .int (.var 0)) (.cons (.not (.isi .bool (.var 0))) (.cons (.cmp .Eq (.var 0) (.var 1)) .nil)))))
  .nil)))))⟩

def b_law_or : Def := ⟨"_law_or", ["due"], ["due"],
  (.cons (.ife (.cmp .Is (.var 0) .non)
   (.cons (.ret (.str "refused"))
   .nil)
   .nil)
  (.cons (.ret (.var 0))
  .nil))⟩

def b_law_draw : Def := ⟨"_law_draw", ["script", "town", "many"], ["script", "town", "many", "k", "cell", "number", "more"],
  (.cons (.expr (.bm .append (.var 1) (.cons (.int 0) .nil)))
  (.cons (.asg (.one 3) (.blt .len (.var 1)))
  (.cons (.asg (.one 4) (.int 0))
  (.cons (.ife (.var 0)
   (.cons (.asg (.one 4) (.idx (.var 0) (.bin .mod (.var 3) (.blt .len (.var 0)))))
   .nil)
   .nil)
  (.cons (.asg (.one 5) (.bin .mod (.bin (.add false) (.var 4) (.bin (.mul false) (.int 104729) (.var 3))) (.int 4294967291)))
  (.cons (.asg (.one 5) (.bin .mod (.bin (.mul false) (.bin .mod (.bin (.mul false) (.var 5) (.var 5)) (.int 4294967279)) (.int 48271)) (.int 4294967291)))
  (.cons (.asg (.one 6) (.bin .mod (.bin (.mul false) (.bin .mod (.bin (.mul false) (.var 5) (.var 5)) (.int 4294967279)) (.int 69621)) (.int 4294967291)))
  (.cons (.ret (.bin .mod (.bin (.add false) (.bin (.mul false) (.bin .div (.var 5) (.int 64)) (.int 67108864)) (.bin .div (.var 6) (.int 64))) (.var 2)))
  .nil))))))))⟩

def b_law_pick : Def := ⟨"_law_pick", ["script", "town", "some"], ["script", "town", "some"],
  (.cons (.ret (.idx (.var 2) (.call "_law_draw" 3 (.cons (.var 0) (.cons (.var 1) (.cons (.blt .len (.var 2)) .nil))))))
  .nil)⟩

def b_law_wish : Def := ⟨"_law_wish", ["script", "town", "left"], ["script", "town", "left", "kind", "one"],
  (.cons (.asg (.one 3) (.call "_law_draw" 3 (.cons (.var 0) (.cons (.var 1) (.cons (.int 6) .nil)))))
  (.cons (.ife (.bor (.cons (.cmp .Lt (.var 2) (.int 2)) (.cons (.cmp .Lt (.var 3) (.int 2)) .nil)))
   (.cons (.ife (.cmp .Eq (.call "_law_draw" 3 (.cons (.var 0) (.cons (.var 1) (.cons (.int 2) .nil)))) (.int 0))
    (.cons (.ret (.tup (.cons (.str "mark") (.cons (.call "_law_pick" 3 (.cons (.var 0) (.cons (.var 1) (.cons (.lst false (.cons (.str "x") (.cons (.str "y") (.cons (.str "slow") (.cons (.str "no") .nil))))) .nil)))) .nil))))
    .nil)
    .nil)
   (.cons (.ret (.tup (.cons (.str "name") (.cons (.call "_law_pick" 3 (.cons (.var 0) (.cons (.var 1) (.cons (.lst false (.cons (.str "a") (.cons (.str "b") (.cons (.str "de") (.cons (.str "z") (.cons (.str "e") (.cons (.str "q") .nil))))))) .nil)))) .nil))))
   .nil))
   .nil)
  (.cons (.ife (.cmp .Eq (.var 3) (.int 2))
   (.cons (.ret (.tup (.cons (.str "not") (.cons (.call "_law_wish" 3 (.cons (.var 0) (.cons (.var 1) (.cons (.bin .sub (.var 2) (.int 1)) .nil)))) .nil))))
   .nil)
   .nil)
  (.cons (.asg (.one 4) (.call "_law_wish" 3 (.cons (.var 0) (.cons (.var 1) (.cons (.bin .sub (.var 2) (.int 1)) .nil)))))
  (.cons (.ret (.tup (.cons (.call "_law_pick" 3 (.cons (.var 0) (.cons (.var 1) (.cons (.lst false (.cons (.str "and") (.cons (.str "or") .nil))) .nil)))) (.cons (.var 4) (.cons (.call "_law_wish" 3 (.cons (.var 0) (.cons (.var 1) (.cons (.bin .sub (.var 2) (.int 1)) .nil)))) .nil)))))
  .nil)))))⟩

def b_law_holds : Def := ⟨"_law_holds", ["wish", "path", "marks"], ["wish", "path", "marks", "some", "one"],
  (.cons (.ife (.cmp .In (.idx (.var 0) (.int 0)) (.tup (.cons (.str "mark") (.cons (.str "name") .nil))))
   (.cons (.ret (.ite (.cmp .Eq (.idx (.var 0) (.int 0)) (.str "mark")) (.cmp .In (.idx (.var 0) (.int 1)) (.var 2)) (.cmp .In (.idx (.var 0) (.int 1)) (.var 1))))
   .nil)
   .nil)
  (.cons (.asg (.one 3) (.lc false [("one", 4)] (.one 4) (.seq (.slc false (.var 0) (.some (.int 1)) .none)) .none (.call "_law_holds" 3 (.cons (.var 4) (.cons (.var 1) (.cons (.var 2) .nil))))))
  (.cons (.ife (.cmp .Eq (.idx (.var 0) (.int 0)) (.str "not"))
   (.cons (.ret (.not (.idx (.var 3) (.int 0))))
   .nil)
   .nil)
  (.cons (.ret (.ite (.cmp .Eq (.idx (.var 0) (.int 0)) (.str "and")) (.band (.cons (.idx (.var 3) (.int 0)) (.cons (.idx (.var 3) (.int 1)) .nil))) (.bor (.cons (.idx (.var 3) (.int 0)) (.cons (.idx (.var 3) (.int 1)) .nil)))))
  .nil))))⟩

def b_law_say : Def := ⟨"_law_say", ["wish"], ["wish"],
  (.cons (.ife (.cmp .In (.idx (.var 0) (.int 0)) (.tup (.cons (.str "mark") (.cons (.str "name") .nil))))
   (.cons (.ret (.bin (.add false) (.bin (.mul false) (.str "~") (.blt .int (.cmp .Eq (.idx (.var 0) (.int 0)) (.str "name")))) (.idx (.var 0) (.int 1))))
   .nil)
   .nil)
  (.cons (.ife (.cmp .Eq (.idx (.var 0) (.int 0)) (.str "not"))
   (.cons (.ret (.bin (.add false) (.str "!") (.call "_law_say" 1 (.cons (.idx (.var 0) (.int 1)) .nil))))
   .nil)
   .nil)
  (.cons (.ret (.bin (.add false) (.bin (.add false) (.bin (.add false) (.bin (.add false) (.str "(") (.call "_law_say" 1 (.cons (.idx (.var 0) (.int 1)) .nil))) (.ite (.cmp .Eq (.idx (.var 0) (.int 0)) (.str "and")) (.str "&") (.str "|"))) (.call "_law_say" 1 (.cons (.idx (.var 0) (.int 2)) .nil))) (.str ")")))
  .nil)))⟩

def b_law_told : Def := ⟨"_law_told", ["text"], ["text", "got"],
  (.cons (.asg (.one 1) .non)
  (.cons (.try_ ["NoText"]
   (.cons (.asg (.one 1) (.call "read" 1 (.cons (.var 0) .nil)))
   .nil)
   [("NoText", .set 1 "refused")])
  (.cons (.ret (.var 1))
  .nil)))⟩

def b_law_read : Def := ⟨"_law_read", ["text", "left"], ["text", "left", "kind", "many", "one", "rest", "other", "last"],
  (.cons (.ife (.bor (.cons (.cmp .Eq (.var 1) (.int 0)) (.cons (.cmp .Eq (.var 0) (.str "")) .nil)))
   (.cons (.ret (.tup (.cons .non (.cons (.str "") .nil))))
   .nil)
   .nil)
  (.cons (.ife (.cmp .Eq (.idx (.var 0) (.int 0)) (.str "!"))
   (.cons (.asg (.tup [4, 5]) (.call "_law_read" 2 (.cons (.slc false (.var 0) (.some (.int 1)) .none) (.cons (.bin .sub (.var 1) (.int 1)) .nil))))
   (.cons (.ret (.tup (.cons (.ite (.cmp .IsNot (.var 4) .non) (.tup (.cons (.str "not") (.cons (.var 4) .nil))) .non) (.cons (.var 5) .nil))))
   .nil))
   .nil)
  (.cons (.ife (.cmp .Eq (.idx (.var 0) (.int 0)) (.str "("))
   (.cons (.asg (.tup [4, 5]) (.call "_law_read" 2 (.cons (.slc false (.var 0) (.some (.int 1)) .none) (.cons (.bin .sub (.var 1) (.int 1)) .nil))))
   (.cons (.ife (.bor (.cons (.cmp .Is (.var 4) .non) (.cons (.cmp .NotIn (.slc false (.var 5) .none (.some (.int 1))) (.tup (.cons (.str "&") (.cons (.str "|") .nil)))) .nil)))
    (.cons (.ret (.tup (.cons .non (.cons (.str "") .nil))))
    .nil)
    .nil)
   (.cons (.asg (.tup [6, 7]) (.call "_law_read" 2 (.cons (.slc false (.var 5) (.some (.int 1)) .none) (.cons (.bin .sub (.var 1) (.int 1)) .nil))))
   (.cons (.ife (.bor (.cons (.cmp .Is (.var 6) .non) (.cons (.cmp .NotEq (.slc false (.var 7) .none (.some (.int 1))) (.str ")")) .nil)))
    (.cons (.ret (.tup (.cons .non (.cons (.str "") .nil))))
    .nil)
    .nil)
   (.cons (.ret (.tup (.cons (.tup (.cons (.ite (.cmp .Eq (.idx (.var 5) (.int 0)) (.str "&")) (.str "and") (.str "or")) (.cons (.var 4) (.cons (.var 6) .nil)))) (.cons (.slc false (.var 7) (.some (.int 1)) .none) .nil))))
   .nil)))))
   .nil)
  (.cons (.asg (.one 2) (.ite (.cmp .Eq (.idx (.var 0) (.int 0)) (.str "~")) (.str "name") (.str "mark")))
  (.cons (.asg (.one 0) (.ite (.cmp .Eq (.var 2) (.str "name")) (.slc false (.var 0) (.some (.int 1)) .none) (.var 0)))
  (.cons (.asg (.one 3) (.int 0))
  (.cons (.whl 10000 (.chain .LtE .LtE (.str "a") (.slc false (.var 0) (.some (.var 3)) (.some (.bin (.add false) (.var 3) (.int 1)))) (.str "z"))
   (.cons (.asg (.one 3) (.bin (.add false) (.var 3) (.int 1)))
   .nil))
  (.cons (.ret (.tup (.cons (.ite (.chain .Lt .Lt (.int 0) (.var 3) (.int 6)) (.tup (.cons (.var 2) (.cons (.slc false (.var 0) .none (.some (.var 3))) .nil))) .non) (.cons (.slc false (.var 0) (.some (.var 3)) .none) .nil))))
  .nil))))))))⟩

def b_law : Def := ⟨"law", ["script"], ["script", "town", "k", "made", "text", "texts", "j", "thing", "at", "sign", "due", "rest"],
  (.cons (.asg (.one 1) (.lst true .nil))
  (.cons (.for_ (.one 2) (.rng1 (.int 8))
   (.cons (.asg (.one 3) (.call "_law_wish" 3 (.cons (.var 0) (.cons (.var 1) (.cons (.int 6) .nil)))))
   (.cons (.asg (.one 4) (.call "_law_say" 1 (.cons (.var 3) .nil)))
   (.cons (.ife (.bor (.cons (.not (.call "_law_same" 2 (.cons (.call "text_of" 1 (.cons (.var 3) .nil)) (.cons (.var 4) .nil)))) (.cons (.not (.call "_law_same" 2 (.cons (.call "_law_told" 1 (.cons (.var 4) .nil)) (.cons (.var 3) .nil)))) .nil)))
    (.cons (.ret (.bl false))
    .nil)
    .nil)
   (.cons (.asg (.one 5) (.lst false (.cons (.bin (.add false) (.var 4) (.var 4)) (.cons (.bin (.add false) (.str " ") (.var 4)) (.cons (.bin (.add false) (.var 4) (.str " ")) (.cons (.rev false (.var 4)) (.cons (.str "") (.cons (.str "~") (.cons (.str "!") (.cons (.str "()") (.cons (.str "(a)") (.cons (.str "(a&b") (.cons (.str "a&b") .nil)))))))))))))
   (.cons (.asg (.one 5) (.bin (.add false) (.var 5) (.lst false (.cons (.str "abcdef") (.cons (.str "~abcdef") (.cons (.str "!!!!!a") (.cons (.str "!!!!!!a") (.cons (.str "(a&!!!!b)") (.cons (.str "(a&!!!!!b)") (.cons (.str "((a&b)|c)") .nil))))))))))
   (.cons (.asg (.one 5) (.bin (.add false) (.var 5) (.lst false (.cons (.str "~~a") (.cons (.str "!~a") (.cons (.str "~!a") (.cons (.str "(a&b))") (.cons (.str "A") (.cons (.str "a!") .nil)))))))))
   (.cons (.for_ (.one 6) (.rng1 (.int 8))
    (.cons (.asg (.one 8) (.call "_law_draw" 3 (.cons (.var 0) (.cons (.var 1) (.cons (.bin (.add false) (.blt .len (.var 4)) (.int 1)) .nil)))))
    (.cons (.asg (.one 9) (.call "_law_pick" 3 (.cons (.var 0) (.cons (.var 1) (.cons (.str "abxz~!()&| AZ1_") .nil)))))
    (.cons (.asg (.one 5) (.bin (.add false) (.var 5) (.lst false (.cons (.bin (.add false) (.bin (.add false) (.slc false (.var 4) .none (.some (.var 8))) (.var 9)) (.slc false (.var 4) (.some (.var 8)) .none)) (.cons (.bin (.add false) (.slc false (.var 4) .none (.some (.var 8))) (.slc false (.var 4) (.some (.bin (.add false) (.var 8) (.int 1))) .none)) (.cons (.bin (.add false) (.bin (.add false) (.slc false (.var 4) .none (.some (.var 8))) (.var 9)) (.slc false (.var 4) (.some (.bin (.add false) (.var 8) (.int 1))) .none)) .nil))))))
    .nil))))
   (.cons (.for_ (.one 7) (.seq (.var 5))
    (.cons (.asg (.tup [10, 11]) (.call "_law_read" 2 (.cons (.var 7) (.cons (.int 6) .nil))))
    (.cons (.ife (.not (.call "_law_same" 2 (.cons (.call "_law_told" 1 (.cons (.var 7) .nil)) (.cons (.call "_law_or" 1 (.cons (.ite (.cmp .Eq (.var 11) (.str "")) (.var 10) .non) .nil)) .nil))))
     (.cons (.ret (.bl false))
     .nil)
     .nil)
    .nil)))
   .nil)))))))))
  (.cons (.ret (.bl true))
  .nil)))⟩

def T : Tab := [b_is_word, b_text_of, b_Reader_init, b_Reader_sign, b_Reader_pass_sign, b_Reader_word, b_Reader_wish, b_read, b_law_same, b_law_or, b_law_draw, b_law_pick, b_law_wish, b_law_holds, b_law_say, b_law_told, b_law_read, b_law]
def cl : ClI := ⟨[("Reader", "text"), ("Reader", "at")], [("Reader", "sign", "Reader.sign"), ("Reader", "pass_sign", "Reader.pass_sign"), ("Reader", "word", "Reader.word"), ("Reader", "wish", "Reader.wish")], [("Reader", "Reader.__init__")], ["NoText"]⟩
def gcl : List (Str × D) := [("LETTERS", .str "abcdefghijklmnopqrstuvwxyz"), ("WORD_MOST", .int 5), ("DEEP_MOST", .int 6)]
def gc (x : Str) : Option D := gcl.lookup x
def top (i : Nat) : Stmt := PySem.Challenge.pw_trybook_k10_whole_wishes_as_texts.main.body.getD i (.Pass ⟨0, 0, 0, 0⟩)
def inn (i j : Nat) : Stmt := (C8.clsBody (top i)).getD j (.Pass ⟨0, 0, 0, 0⟩)
def mkD (x : Str) (i : Nat) : He.DefD := ⟨(x, none), x, x, defArgs (top i), defBody (top i), defScope (top i), [], []⟩
def mkM (c m q : Str) (i j : Nat) : He.DefD := ⟨(c, some m), m, q, defArgs (inn i j), defBody (inn i j), defScope (inn i j), [], []⟩
def fn : List He.DefD := [mkD "is_word" 3, mkD "text_of" 9, mkM "Reader" "__init__" "Reader.__init__" 10 0, mkM "Reader" "sign" "Reader.sign" 10 1, mkM "Reader" "pass_sign" "Reader.pass_sign" 10 2, mkM "Reader" "word" "Reader.word" 10 3, mkM "Reader" "wish" "Reader.wish" 10 4, mkD "read" 11, mkD "_law_same" 13, mkD "_law_or" 14, mkD "_law_draw" 15, mkD "_law_pick" 16, mkD "_law_wish" 17, mkD "_law_holds" 18, mkD "_law_say" 19, mkD "_law_told" 20, mkD "_law_read" 21, mkD "law" 22]
def fa : List He.Fa := [.glo "is_word", .glo "text_of", .glo "read", .glo "_law_same", .glo "_law_or", .glo "_law_draw", .glo "_law_pick", .glo "_law_wish", .glo "_law_holds", .glo "_law_say", .glo "_law_told", .glo "_law_read", .glo "law", .free "len", .free "isinstance", .free "all", .free "any", .free "tuple", .free "list", .free "int", .free "str", .free "bool", .free "range", .free "sum", .free "sorted", .free "set", .free "dict", .free "enumerate", .free "zip", .free "min", .free "max", .free "repr", .str "LETTERS" "abcdefghijklmnopqrstuvwxyz", .int "WORD_MOST" (5), .int "DEEP_MOST" (6), .glo "Reader", .cls "Reader", .mkr "Reader", .noat "Reader" "text", .noat "Reader" "at", .meth "Reader" "sign", .meth "Reader" "pass_sign", .meth "Reader" "word", .meth "Reader" "wish", .glo "NoText"]
def free : List Str := ["len", "isinstance", "all", "any", "tuple", "list", "int", "str", "bool", "range", "sum", "sorted", "set", "dict", "enumerate", "zip", "min", "max", "repr"]
def con : List Str := ["LETTERS", "WORD_MOST", "DEEP_MOST"]
abbrev R : PySem.W.OpenRow := PySem.W.OpenLaw.row PySem.Challenge.rw_trybook_k10_whole_wishes_as_texts
def ts : List He.Tab := []
def ex (K : PySem.W.Frag) : Bool := true && excL ["NoText"] K
abbrev hk : PySem.W.Hook := TB.hookV 4 fa fn ts ex
def ob (s : PySem.W.SharedT) : He.AlT × Bool := TB.obsVG 4 fa fn ts ex (HandSHeadRun.getT s)
theorem ob_eq (s : PySem.W.SharedT) : ob s = hk.obs s.abs := TB.obsVG_eq (HandSHeadRun.getT_eq s)
def loose0 : List Str := ["LETTERS", "WORD_MOST", "is_word", "TryError", "NoText", "DEEP_MOST", "text_of", "Reader", "read", "_law_same", "_law_or", "_law_draw", "_law_pick", "_law_wish", "_law_holds", "_law_say", "_law_told", "_law_read"]
def loose : List Str := loose0
theorem run_true (w : World) : HandSHeadRun.RunEq R (PySem.W.view R.prog [22]) hk ob 6000 loose (TB.wF w true) := by
  intro os
  kernel_rfl
theorem run_false (w : World) : HandSHeadRun.RunEq R (PySem.W.view R.prog [22]) hk ob 6000 loose (TB.wF w false) := by
  intro os
  kernel_rfl
theorem run (w : World) : HandSHeadRun.RunEq R (PySem.W.view R.prog [22]) hk ob 6000 loose w := by
  rw [TB.wF_eq w]
  cases w.params.followText "special-get-raises"
  · exact run_false w
  · exact run_true w
theorem ck0 : (fscB b_is_word.N b_is_word.ps (defScope (top 3)) && ckSs (T.ck cl free con b_is_word.N (defScope (top 3))) b_is_word.body (defBody (top 3))) = true := by decide +kernel
theorem ck1 : (fscB b_text_of.N b_text_of.ps (defScope (top 9)) && ckSs (T.ck cl free con b_text_of.N (defScope (top 9))) b_text_of.body (defBody (top 9))) = true := by decide +kernel
theorem ck2 : (fscB b_Reader_init.N b_Reader_init.ps (defScope (inn 10 0)) && ckSs (T.ck cl free con b_Reader_init.N (defScope (inn 10 0))) b_Reader_init.body (defBody (inn 10 0))) = true := by decide +kernel
theorem ck3 : (fscB b_Reader_sign.N b_Reader_sign.ps (defScope (inn 10 1)) && ckSs (T.ck cl free con b_Reader_sign.N (defScope (inn 10 1))) b_Reader_sign.body (defBody (inn 10 1))) = true := by decide +kernel
theorem ck4 : (fscB b_Reader_pass_sign.N b_Reader_pass_sign.ps (defScope (inn 10 2)) && ckSs (T.ck cl free con b_Reader_pass_sign.N (defScope (inn 10 2))) b_Reader_pass_sign.body (defBody (inn 10 2))) = true := by decide +kernel
theorem ck5 : (fscB b_Reader_word.N b_Reader_word.ps (defScope (inn 10 3)) && ckSs (T.ck cl free con b_Reader_word.N (defScope (inn 10 3))) b_Reader_word.body (defBody (inn 10 3))) = true := by decide +kernel
theorem ck6 : (fscB b_Reader_wish.N b_Reader_wish.ps (defScope (inn 10 4)) && ckSs (T.ck cl free con b_Reader_wish.N (defScope (inn 10 4))) b_Reader_wish.body (defBody (inn 10 4))) = true := by decide +kernel
theorem ck7 : (fscB b_read.N b_read.ps (defScope (top 11)) && ckSs (T.ck cl free con b_read.N (defScope (top 11))) b_read.body (defBody (top 11))) = true := by decide +kernel
theorem ck8 : (fscB b_law_same.N b_law_same.ps (defScope (top 13)) && ckSs (T.ck cl free con b_law_same.N (defScope (top 13))) b_law_same.body (defBody (top 13))) = true := by decide +kernel
theorem ck9 : (fscB b_law_or.N b_law_or.ps (defScope (top 14)) && ckSs (T.ck cl free con b_law_or.N (defScope (top 14))) b_law_or.body (defBody (top 14))) = true := by decide +kernel
theorem ck10 : (fscB b_law_draw.N b_law_draw.ps (defScope (top 15)) && ckSs (T.ck cl free con b_law_draw.N (defScope (top 15))) b_law_draw.body (defBody (top 15))) = true := by decide +kernel
theorem ck11 : (fscB b_law_pick.N b_law_pick.ps (defScope (top 16)) && ckSs (T.ck cl free con b_law_pick.N (defScope (top 16))) b_law_pick.body (defBody (top 16))) = true := by decide +kernel
theorem ck12 : (fscB b_law_wish.N b_law_wish.ps (defScope (top 17)) && ckSs (T.ck cl free con b_law_wish.N (defScope (top 17))) b_law_wish.body (defBody (top 17))) = true := by decide +kernel
theorem ck13 : (fscB b_law_holds.N b_law_holds.ps (defScope (top 18)) && ckSs (T.ck cl free con b_law_holds.N (defScope (top 18))) b_law_holds.body (defBody (top 18))) = true := by decide +kernel
theorem ck14 : (fscB b_law_say.N b_law_say.ps (defScope (top 19)) && ckSs (T.ck cl free con b_law_say.N (defScope (top 19))) b_law_say.body (defBody (top 19))) = true := by decide +kernel
theorem ck15 : (fscB b_law_told.N b_law_told.ps (defScope (top 20)) && ckSs (T.ck cl free con b_law_told.N (defScope (top 20))) b_law_told.body (defBody (top 20))) = true := by decide +kernel
theorem ck16 : (fscB b_law_read.N b_law_read.ps (defScope (top 21)) && ckSs (T.ck cl free con b_law_read.N (defScope (top 21))) b_law_read.body (defBody (top 21))) = true := by decide +kernel
theorem ck17 : (fscB b_law.N b_law.ps (defScope (top 22)) && ckSs (T.ck cl free con b_law.N (defScope (top 22))) b_law.body (defBody (top 22))) = true := by decide +kernel
theorem nd : T.nd = true := by decide +kernel
abbrev gf (K : PySem.W.Frag) : Str → Option Addr := fun x => some (He.ga K x)
theorem all_def {K : PySem.W.Frag} {h : Heap} {mg : Str → Option Value} (X : K.In h) (G : h.Ns mainGlobals mg) (c : He.SaysD fa fn K) : ∀ d ∈ T, ∃ a fd, DefIs T cl free con K (gf K) mg d a fd := by
  intro d hd
  simp only [T, List.mem_cons, List.not_mem_nil, or_false] at hd
  rcases hd with rfl | rfl | rfl | rfl | rfl | rfl | rfl | rfl | rfl | rfl | rfl | rfl | rfl | rfl | rfl | rfl | rfl | rfl
  · obtain ⟨fd, F⟩ := c.def_ 0 (d := mkD "is_word" 3) rfl
    exact defIs_of F (He.glo_ok X G (c.fact 0 (f := .glo "is_word") rfl)) (fun _ _ _ _ _ _ us hl => match us, hl with | [_], _ => rfl) ck0 (by decide +kernel)
  · obtain ⟨fd, F⟩ := c.def_ 1 (d := mkD "text_of" 9) rfl
    exact defIs_of F (He.glo_ok X G (c.fact 1 (f := .glo "text_of") rfl)) (fun _ _ _ _ _ _ us hl => match us, hl with | [_], _ => rfl) ck1 (by decide +kernel)
  · obtain ⟨fd, F⟩ := c.def_ 2 (d := mkM "Reader" "__init__" "Reader.__init__" 10 0) rfl
    exact defIs_init (c := "Reader") F rfl (He.glo_ok X G (c.fact 35 (f := .glo "Reader") rfl)) (He.mkr_ok (c.fact 37 (f := .mkr "Reader") rfl)) (fun _ _ _ _ _ _ us hl => match us, hl with | [_, _], _ => rfl) ck2 (by decide +kernel)
  · obtain ⟨fd, F⟩ := c.def_ 3 (d := mkM "Reader" "sign" "Reader.sign" 10 1) rfl
    exact defIs_meth (c := "Reader") (m := "sign") F rfl (He.cls_ok (c.fact 36 (f := .cls "Reader") rfl)) (He.meth_ok (c.fact 40 (f := .meth "Reader" "sign") rfl)) (fun _ _ _ _ _ _ us hl => match us, hl with | [_], _ => rfl) ck3 (by decide +kernel)
  · obtain ⟨fd, F⟩ := c.def_ 4 (d := mkM "Reader" "pass_sign" "Reader.pass_sign" 10 2) rfl
    exact defIs_meth (c := "Reader") (m := "pass_sign") F rfl (He.cls_ok (c.fact 36 (f := .cls "Reader") rfl)) (He.meth_ok (c.fact 41 (f := .meth "Reader" "pass_sign") rfl)) (fun _ _ _ _ _ _ us hl => match us, hl with | [_, _], _ => rfl) ck4 (by decide +kernel)
  · obtain ⟨fd, F⟩ := c.def_ 5 (d := mkM "Reader" "word" "Reader.word" 10 3) rfl
    exact defIs_meth (c := "Reader") (m := "word") F rfl (He.cls_ok (c.fact 36 (f := .cls "Reader") rfl)) (He.meth_ok (c.fact 42 (f := .meth "Reader" "word") rfl)) (fun _ _ _ _ _ _ us hl => match us, hl with | [_], _ => rfl) ck5 (by decide +kernel)
  · obtain ⟨fd, F⟩ := c.def_ 6 (d := mkM "Reader" "wish" "Reader.wish" 10 4) rfl
    exact defIs_meth (c := "Reader") (m := "wish") F rfl (He.cls_ok (c.fact 36 (f := .cls "Reader") rfl)) (He.meth_ok (c.fact 43 (f := .meth "Reader" "wish") rfl)) (fun _ _ _ _ _ _ us hl => match us, hl with | [_, _], _ => rfl) ck6 (by decide +kernel)
  · obtain ⟨fd, F⟩ := c.def_ 7 (d := mkD "read" 11) rfl
    exact defIs_of F (He.glo_ok X G (c.fact 2 (f := .glo "read") rfl)) (fun _ _ _ _ _ _ us hl => match us, hl with | [_], _ => rfl) ck7 (by decide +kernel)
  · obtain ⟨fd, F⟩ := c.def_ 8 (d := mkD "_law_same" 13) rfl
    exact defIs_of F (He.glo_ok X G (c.fact 3 (f := .glo "_law_same") rfl)) (fun _ _ _ _ _ _ us hl => match us, hl with | [_, _], _ => rfl) ck8 (by decide +kernel)
  · obtain ⟨fd, F⟩ := c.def_ 9 (d := mkD "_law_or" 14) rfl
    exact defIs_of F (He.glo_ok X G (c.fact 4 (f := .glo "_law_or") rfl)) (fun _ _ _ _ _ _ us hl => match us, hl with | [_], _ => rfl) ck9 (by decide +kernel)
  · obtain ⟨fd, F⟩ := c.def_ 10 (d := mkD "_law_draw" 15) rfl
    exact defIs_of F (He.glo_ok X G (c.fact 5 (f := .glo "_law_draw") rfl)) (fun _ _ _ _ _ _ us hl => match us, hl with | [_, _, _], _ => rfl) ck10 (by decide +kernel)
  · obtain ⟨fd, F⟩ := c.def_ 11 (d := mkD "_law_pick" 16) rfl
    exact defIs_of F (He.glo_ok X G (c.fact 6 (f := .glo "_law_pick") rfl)) (fun _ _ _ _ _ _ us hl => match us, hl with | [_, _, _], _ => rfl) ck11 (by decide +kernel)
  · obtain ⟨fd, F⟩ := c.def_ 12 (d := mkD "_law_wish" 17) rfl
    exact defIs_of F (He.glo_ok X G (c.fact 7 (f := .glo "_law_wish") rfl)) (fun _ _ _ _ _ _ us hl => match us, hl with | [_, _, _], _ => rfl) ck12 (by decide +kernel)
  · obtain ⟨fd, F⟩ := c.def_ 13 (d := mkD "_law_holds" 18) rfl
    exact defIs_of F (He.glo_ok X G (c.fact 8 (f := .glo "_law_holds") rfl)) (fun _ _ _ _ _ _ us hl => match us, hl with | [_, _, _], _ => rfl) ck13 (by decide +kernel)
  · obtain ⟨fd, F⟩ := c.def_ 14 (d := mkD "_law_say" 19) rfl
    exact defIs_of F (He.glo_ok X G (c.fact 9 (f := .glo "_law_say") rfl)) (fun _ _ _ _ _ _ us hl => match us, hl with | [_], _ => rfl) ck14 (by decide +kernel)
  · obtain ⟨fd, F⟩ := c.def_ 15 (d := mkD "_law_told" 20) rfl
    exact defIs_of F (He.glo_ok X G (c.fact 10 (f := .glo "_law_told") rfl)) (fun _ _ _ _ _ _ us hl => match us, hl with | [_], _ => rfl) ck15 (by decide +kernel)
  · obtain ⟨fd, F⟩ := c.def_ 16 (d := mkD "_law_read" 21) rfl
    exact defIs_of F (He.glo_ok X G (c.fact 11 (f := .glo "_law_read") rfl)) (fun _ _ _ _ _ _ us hl => match us, hl with | [_, _], _ => rfl) ck16 (by decide +kernel)
  · obtain ⟨fd, F⟩ := c.def_ 17 (d := mkD "law" 22) rfl
    exact defIs_of F (He.glo_ok X G (c.fact 12 (f := .glo "law") rfl)) (fun _ _ _ _ _ _ us hl => match us, hl with | [_], _ => rfl) ck17 (by decide +kernel)
theorem all_fld {K : PySem.W.Frag} (c : He.SaysD fa fn K) : ∀ x f, (x, f) ∈ cl.flds → ∃ C, gf K x = some C ∧ Cls K C ∧ NoAttr K C f := by
  intro x f hx
  simp only [cl, List.mem_cons, List.not_mem_nil, or_false, Prod.mk.injEq] at hx
  rcases hx with ⟨rfl, rfl⟩ | ⟨rfl, rfl⟩
  · exact ⟨_, rfl, He.cls_ok (c.fact 36 (f := .cls "Reader") rfl), He.noat_ok (c.fact 38 (f := .noat "Reader" "text") rfl)⟩
  · exact ⟨_, rfl, He.cls_ok (c.fact 36 (f := .cls "Reader") rfl), He.noat_ok (c.fact 39 (f := .noat "Reader" "at") rfl)⟩
theorem all_free {K : PySem.W.Frag} {h : Heap} {mg : Str → Option Value} (X : K.In h) (G : h.Ns mainGlobals mg) (c : He.SaysD fa fn K) : ∀ x ∈ free, mg x = none := by
  intro x hx
  simp only [free, List.mem_cons, List.not_mem_nil, or_false] at hx
  rcases hx with rfl | rfl | rfl | rfl | rfl | rfl | rfl | rfl | rfl | rfl | rfl | rfl | rfl | rfl | rfl | rfl | rfl | rfl | rfl
  · exact He.free_ok X G (c.fact 13 (f := .free "len") rfl)
  · exact He.free_ok X G (c.fact 14 (f := .free "isinstance") rfl)
  · exact He.free_ok X G (c.fact 15 (f := .free "all") rfl)
  · exact He.free_ok X G (c.fact 16 (f := .free "any") rfl)
  · exact He.free_ok X G (c.fact 17 (f := .free "tuple") rfl)
  · exact He.free_ok X G (c.fact 18 (f := .free "list") rfl)
  · exact He.free_ok X G (c.fact 19 (f := .free "int") rfl)
  · exact He.free_ok X G (c.fact 20 (f := .free "str") rfl)
  · exact He.free_ok X G (c.fact 21 (f := .free "bool") rfl)
  · exact He.free_ok X G (c.fact 22 (f := .free "range") rfl)
  · exact He.free_ok X G (c.fact 23 (f := .free "sum") rfl)
  · exact He.free_ok X G (c.fact 24 (f := .free "sorted") rfl)
  · exact He.free_ok X G (c.fact 25 (f := .free "set") rfl)
  · exact He.free_ok X G (c.fact 26 (f := .free "dict") rfl)
  · exact He.free_ok X G (c.fact 27 (f := .free "enumerate") rfl)
  · exact He.free_ok X G (c.fact 28 (f := .free "zip") rfl)
  · exact He.free_ok X G (c.fact 29 (f := .free "min") rfl)
  · exact He.free_ok X G (c.fact 30 (f := .free "max") rfl)
  · exact He.free_ok X G (c.fact 31 (f := .free "repr") rfl)
theorem all_con {K : PySem.W.Frag} {h : Heap} {mg : Str → Option Value} {gf : Str → Option Addr} (X : K.In h) (G : h.Ns mainGlobals mg) (c : He.SaysD fa fn K) (he : ex K = true) : ∀ x ∈ con, ∀ d, gc x = some d → ConOk K gf mg x d := by
  intro x hx d hd
  unfold ex at he
  try simp only [Bool.and_eq_true] at he
  simp only [con, List.mem_cons, List.not_mem_nil, or_false] at hx
  rcases hx with rfl | rfl | rfl
  · have e : gc "LETTERS" = some (.str "abcdefghijklmnopqrstuvwxyz") := rfl
    rw [e] at hd; cases hd
    exact con_str (He.str_ok X G (c.fact 32 (f := .str "LETTERS" "abcdefghijklmnopqrstuvwxyz") rfl)) (by decide +kernel) (by decide +kernel)
  · have e : gc "WORD_MOST" = some (.int 5) := rfl
    rw [e] at hd; cases hd
    exact con_int (He.int_ok X G (c.fact 33 (f := .int "WORD_MOST" (5)) rfl))
  · have e : gc "DEEP_MOST" = some (.int 6) := rfl
    rw [e] at hd; cases hd
    exact con_int (He.int_ok X G (c.fact 34 (f := .int "DEEP_MOST" (6)) rfl))
theorem all_dic {K : PySem.W.Frag} {w : World} {h : Heap} {mg : Str → Option Value} {gf : Str → Option Addr} (X : K.In h) (G : h.Ns mainGlobals mg) (c : He.SaysT fa fn ts w K) (he : ex K = true) : DicsOk K w gf mg gc con := dics_none (by decide +kernel)
theorem all_exc {K : PySem.W.Frag} {h : Heap} {mg : Str → Option Value} (X : K.In h) (G : h.Ns mainGlobals mg) (c : He.SaysD fa fn K) (he : ex K = true) : ExcsOk K (gf K) mg cl.exc := by
  unfold ex at he
  simp only [Bool.and_eq_true] at he
  refine excs_of (fun x hx => ?_) he.2
  simp only [cl, List.mem_cons, List.not_mem_nil, or_false] at hx
  rcases hx with rfl
  exact He.glo_ok X G (c.fact 44 (f := .glo "NoText") rfl)
theorem facts {P : Program} {w : World} {K : PySem.W.Frag} {h : Heap} {mg : Str → Option Value} {f : Addr} (n : Nat) (X : K.In h) (G : h.Ns mainGlobals mg) (hfa : mg ("law" : Str) = some (.ref f)) (ct : He.SaysT fa fn ts w K) (he : ex K = true) :
    ∃ fd : FuncData, (∀ (s : Shared) (v : Value), BindsTo s fd ⟨[v], []⟩ [("script", v)]) ∧ ∀ base : Heap, K.In base → base.Ns mainGlobals mg → FnOk P w K mg base (L2.CX P w) (2 * n) f fd ["script"] (spF K (gf K) 1 (cfN T gc n "law")) := by
  have c := ct.d
  obtain ⟨a, fd, di⟩ := all_def X G c b_law (by simp [T])
  obtain ⟨g1, g2⟩ := di.gl (by decide +kernel)
  cases hfa.symm.trans g2
  exact ⟨fd, fun s v => .of_eq (di.bd [v] rfl), fun base hb hg => all_ok (P := P) (w := w) (base := base) (gf := gf K) nd (all_def X G c) (all_fld c) (all_free X G c) (all_con X G c he) (all_dic X G ct he) (all_exc X G c he) n b_law (by simp [T]) f fd di⟩
theorem law_of {n : Nat} (hn : n ≤ 100) (hpure : ∀ ns : List Int, ns.length ≤ 63 → ∃ st, cfN T gc n "law" [.scr ns] [] = some (.ok (.bl true), st)) : PySem.Challenge.rw_trybook_k10_whole_wishes_as_texts.Holds := by
  open PySem.W PySem.Calls PyProof.Rows in
  w_on; o_law
  refine HandSHeadRun.head_any (r := PySem.W.OpenLaw.row PySem.Challenge.rw_trybook_k10_whole_wishes_as_texts) (q := PySem.W.view (PySem.W.OpenLaw.row PySem.Challenge.rw_trybook_k10_whole_wishes_as_texts).prog [22]) (H := hk) (ob := ob) (M := 6000) (loose := loose) (d := HandSHeadRun.topDef (PySem.W.OpenLaw.row PySem.Challenge.rw_trybook_k10_whole_wishes_as_texts).prog 22) (kwd := []) ob_eq
    (by kernel_rfl) (fun s => by kernel_rfl) run (by kernel_rfl) (by kernel_rfl) (by kernel_rfl) (by rfl) (by first | assumption | decide +kernel) (by decide +kernel) ⟨rfl, rfl, rfl, rfl, rfl, by decide +kernel⟩ ?hw ?hc
  case hw => w_witness2
  case hc =>
    refine L2.TBwalk (l := PySem.Challenge.rw_trybook_k10_whole_wishes_as_texts) (n := 63) (k := 2 * n) (x := "script") rfl (by decide) (by kernel_rfl) (L2.TBroom hn) ?F
    intro w mg fa h Y G hmg0
    obtain ⟨K, KX, ct, he⟩ := Y
    have hmg : mg ("law" : PySem.Str) = some (.ref fa) := by
      have e : (HandSHeadRun.topDef (PySem.W.OpenLaw.row PySem.Challenge.rw_trybook_k10_whole_wishes_as_texts).prog 22).name = ("law" : PySem.Str) := by kernel_rfl
      rw [← e]
      exact hmg0
    obtain ⟨fd, hb, hF⟩ := facts (P := (PySem.Challenge.rw_trybook_k10_whole_wishes_as_texts).prog) (w := w) n KX G hmg ct he
    exact ⟨K, fd, _, KX, hb, fun H a ns hl hO hS => law_sp hpure H a ns hl hO hS, hF⟩
end TBP
set_option Elab.async false
set_option linter.all false
set_option maxRecDepth 100000
set_option maxHeartbeats 4000000
/-! TB14: what a run of the small language must meet, told backwards -/
namespace TB
open PySem PySem.Spec L2
section
variable {τ υ : Type}
def wp (m : M τ) (st : Sto) (P : τ → Sto → Prop) (E : Str → Sto → Prop) : Prop := match m st with
  | some (.ok t, st1) => P t st1
  | some (.exn c, st1) => E c st1
  | none => False
def wpS (m : MS) (ρ : Lo) (st : Sto) (Q : Out → Sto → Prop) : Prop := match m ρ st with
  | some (o, st1) => Q o st1
  | none => False
def lk (o : Option τ) (P : τ → Prop) : Prop := match o with
  | some t => P t
  | none => False
@[simp ↓] theorem lk_some (t : τ) (P : τ → Prop) : lk (some t) P = P t := rfl
@[simp ↓] theorem lk_none (P : τ → Prop) : lk none P = False := rfl
theorem lk_congr {o o' : Option τ} {P : τ → Prop} (h : o = o') : lk o P = lk o' P := by rw [h]
theorem wp_congr {m m' : M τ} {st st' : Sto} {P : τ → Sto → Prop} {E : Str → Sto → Prop} (h : m = m') (h2 : st = st') : wp m st P E = wp m' st' P E := by rw [h, h2]
theorem wpS_congr {m : MS} {ρ ρ' : Lo} {st st' : Sto} {Q : Out → Sto → Prop} (h : ρ = ρ') (h2 : st = st') : wpS m ρ st Q = wpS m ρ' st' Q := by rw [h, h2]
variable {P : τ → Sto → Prop} {P2 : υ → Sto → Prop} {E : Str → Sto → Prop} {st : Sto}
@[simp ↓] theorem wp_bind (m : M τ) (f : τ → M υ) : wp (M.bind m f) st P2 E = wp m st (fun t st1 => wp (f t) st1 P2 E) E := by
  unfold wp M.bind
  rcases m st with _ | ⟨⟨t⟩ | ⟨c⟩, st1⟩ <;> rfl
@[simp ↓] theorem wp_pure (t : τ) : wp (M.pure t) st P E = P t st := rfl
@[simp ↓] theorem wp_look (f : Sto → Option τ) : wp (M.look f) st P E = lk (f st) (fun t => P t st) := by
  unfold wp M.look lk
  rcases f st with _ | t <;> rfl
theorem wp_quiet (m : M τ) : wp (M.quiet m) st P E = wp m st P (fun _ _ => False) := by
  unfold wp M.quiet
  rcases m st with _ | ⟨⟨t⟩ | ⟨c⟩, st1⟩ <;> rfl
@[simp ↓] theorem wp_stuck : wp (M.stuck : M τ) st P E = False := rfl
@[simp] theorem wp_ite (b : Prop) [Decidable b] (m1 m2 : M τ) : wp (if b then m1 else m2) st P E = if b then wp m1 st P E else wp m2 st P E := by
  split <;> rfl
theorem wp_mono {m : M τ} {P' : τ → Sto → Prop} {E' : Str → Sto → Prop} (h : wp m st P E) (hp : ∀ t st1, P t st1 → P' t st1) (he : ∀ c st1, E c st1 → E' c st1) : wp m st P' E' := by
  revert h
  unfold wp
  rcases m st with _ | ⟨⟨t⟩ | ⟨c⟩, st1⟩
  · exact id
  · exact hp t st1
  · exact he c st1
abbrev noX : Str → Sto → Prop := fun _ _ => False
theorem wp_go {m : M τ} {P' : τ → Sto → Prop} (h : wp m st P' noX) (hp : ∀ t st1, P' t st1 → P t st1) : wp m st P E := wp_mono h hp fun _ _ z => z.elim
theorem wp_ok {m : M τ} (h : wp m st P noX) : ∃ t st1, m st = some (.ok t, st1) ∧ P t st1 := by
  revert h
  unfold wp
  rcases m st with _ | ⟨⟨t⟩ | ⟨c⟩, st1⟩
  · exact fun z => z.elim
  · exact fun h => ⟨t, st1, rfl, h⟩
  · exact fun z => z.elim
theorem wpS_mono {m : MS} {ρ : Lo} {Q Q' : Out → Sto → Prop} (h : wpS m ρ st Q) (hp : ∀ t st1, Q t st1 → Q' t st1) : wpS m ρ st Q' := by
  revert h
  unfold wpS
  rcases m ρ st with _ | ⟨o, st1⟩
  · exact id
  · exact hp o st1
@[simp ↓] theorem wp_mkT (l : List D) {P : D → Sto → Prop} : wp (mkT l) st P E = (l.length ≤ sizeLine ∧ P (.tup l) st) := by
  unfold wp mkT
  by_cases h : l.length ≤ sizeLine <;> simp [h]
@[simp ↓] theorem wp_mkLf (l : List D) {P : D → Sto → Prop} : wp (mkL false l) st P E = (l.length ≤ sizeLine ∧ P (.lst l) st) := by
  unfold wp mkL
  by_cases h : l.length ≤ sizeLine <;> simp [h]
@[simp ↓] theorem wp_mkLt (l : List D) {P : D → Sto → Prop} : wp (mkL true l) st P E = (l.length ≤ sizeLine ∧ P (.ref st.length) (st ++ [.lst l])) := by
  unfold wp mkL
  by_cases h : l.length ≤ sizeLine <;> simp [h]
end
/-! ### the language -/
section
variable {cf : Str → List D → M D} {gc : Str → Option D} {ρ : Lo} {st : Sto} {P : D → Sto → Prop} {PB : Bool → Sto → Prop} {PL : List D → Sto → Prop} {E : Str → Sto → Prop}
@[simp ↓] theorem we_var (i : Nat) : wp (ev cf gc (.var i) ρ) st P E = lk ((ρ[i]?).bind id) (fun t => P t st) := by
  rw [ev]; exact wp_look _
@[simp ↓] theorem we_non : wp (ev cf gc .non ρ) st P E = P .non st := by rw [ev]; rfl
@[simp ↓] theorem we_bl (b : Bool) : wp (ev cf gc (.bl b) ρ) st P E = P (.bl b) st := by rw [ev]; rfl
@[simp ↓] theorem we_int (b : Int) : wp (ev cf gc (.int b) ρ) st P E = P (.int b) st := by rw [ev]; rfl
@[simp ↓] theorem we_str (b : Str) : wp (ev cf gc (.str b) ρ) st P E = P (.str b) st := by rw [ev]; rfl
@[simp ↓] theorem we_glob (x : Str) : wp (ev cf gc (.glob x) ρ) st P E = lk (gc x) (fun t => P t st) := by rw [ev]; exact wp_look _
@[simp ↓] theorem we_band (es : Es) : wp (ev cf gc (.band es) ρ) st P E = wp (evAnd cf gc es ρ) st P E := by rw [ev]
@[simp ↓] theorem we_bor (es : Es) : wp (ev cf gc (.bor es) ρ) st P E = wp (evOr cf gc es ρ) st P E := by rw [ev]
@[simp ↓] theorem we_and1 (e : TB.E) : wp (evAnd cf gc (.cons e .nil) ρ) st P E = wp (ev cf gc e ρ) st P E := by rw [evAnd]
@[simp ↓] theorem we_or1 (e : TB.E) : wp (evOr cf gc (.cons e .nil) ρ) st P E = wp (ev cf gc e ρ) st P E := by rw [evOr]
@[simp ↓] theorem we_and2 (e e2 : TB.E) (es : Es) : wp (evAnd cf gc (.cons e (.cons e2 es)) ρ) st P E = wp (ev cf gc e ρ) st (fun d st1 => lk (truth st1 d) fun k => if k then wp (evAnd cf gc (.cons e2 es) ρ) st1 P E else P d st1) E := by
  rw [evAnd]
  · show wp (M.bind _ _) st P E = _
    rw [wp_bind]; congr 1; funext d st1; rw [wp_bind, wp_look]; congr 1; funext k; cases k <;> rfl
  · exact fun h => by cases h
@[simp ↓] theorem we_or2 (e e2 : TB.E) (es : Es) : wp (evOr cf gc (.cons e (.cons e2 es)) ρ) st P E = wp (ev cf gc e ρ) st (fun d st1 => lk (truth st1 d) fun k => if k then P d st1 else wp (evOr cf gc (.cons e2 es) ρ) st1 P E) E := by
  rw [evOr]
  · show wp (M.bind _ _) st P E = _
    rw [wp_bind]; congr 1; funext d st1; rw [wp_bind, wp_look]; congr 1; funext k; cases k <;> rfl
  · exact fun h => by cases h
@[simp ↓] theorem we_not (e : TB.E) : wp (ev cf gc (.not e) ρ) st P E = wp (ev cf gc e ρ) st (fun d st1 => lk (truth st1 d) fun k => P (.bl (!k)) st1) E := by
  rw [ev]
  show wp (M.bind _ _) st P E = _
  rw [wp_bind]; congr 1; funext d st1; rw [wp_bind, wp_look]; rfl
theorem w_op (g : D → D → M D) (ma mb : Lo → M D) : wp (mOp g ma mb ρ) st P E = wp (ma ρ) st (fun x st1 => wp (mb ρ) st1 (fun y st2 => wp (g x y) st2 P E) E) E := by
  show wp (M.bind _ _) st P E = _
  rw [wp_bind]; congr 1; funext d st1; rw [wp_bind]
@[simp ↓] theorem we_bin (op : Bop) (a b : TB.E) : wp (ev cf gc (.bin op a b) ρ) st P E = wp (ev cf gc a ρ) st (fun x st1 => wp (ev cf gc b ρ) st1 (fun y st2 => wp (op.g x y) st2 P E) E) E := by
  rw [ev, w_op]
@[simp ↓] theorem we_cmp (op : CmpOp) (a b : TB.E) : wp (ev cf gc (.cmp op a b) ρ) st P E = wp (ev cf gc a ρ) st (fun x st1 => wp (ev cf gc b ρ) st1 (fun y st2 => wp (cmpG op x y) st2 P E) E) E := by
  rw [ev, w_op]
@[simp ↓] theorem we_idx (a b : TB.E) : wp (ev cf gc (.idx a b) ρ) st P E = wp (ev cf gc a ρ) st (fun x st1 => wp (ev cf gc b ρ) st1 (fun y st2 => lk (idxT st2 x y) fun z => P z st2) E) E := by
  rw [ev, w_op]; congr 1; funext x st1; congr 1; funext y st2; exact wp_look _
def gixT (gc : Str → Option D) (x : Str) (d : D) : Option D := match d with
  | .str z => gc (gkey x z)
  | _ => none
@[simp] theorem gixT_str (gc : Str → Option D) (x z : Str) : gixT gc x (.str z) = gc (gkey x z) := rfl
@[simp ↓] theorem we_gix (x : Str) (e : TB.E) : wp (ev cf gc (.gix x e) ρ) st P E = wp (ev cf gc e ρ) st (fun d st1 => lk (gixT gc x d) fun z => P z st1) E := by
  rw [ev]
  show wp (M.bind _ _) st P E = _
  rw [wp_bind]; congr 1; funext d st1; rw [wp_look]; rfl
@[simp ↓] theorem we_lenset (e : TB.E) : wp (ev cf gc (.lenset e) ρ) st P E = wp (ev cf gc e ρ) st (fun d st1 => lk (lenSetT d) fun z => P z st1) E := by
  rw [ev]
  show wp (M.bind _ _) st P E = _
  rw [wp_bind]; congr 1; funext d st1; rw [wp_look]
@[simp ↓] theorem we_srev (e : TB.E) : wp (ev cf gc (.srev e) ρ) st P E = wp (ev cf gc e ρ) st (fun d st1 => wp (srevT d) st1 P E) E := by
  rw [ev]
  show wp (M.bind _ _) st P E = _
  rw [wp_bind]
@[simp ↓] theorem we_neg (a : TB.E) : wp (ev cf gc (.neg a) ρ) st P E = wp (ev cf gc a ρ) st (fun x st1 => wp (gNeg x) st1 P E) E := by
  rw [ev]; exact wp_bind _ _
@[simp ↓] theorem we_chain (o1 o2 : CmpOp) (a b c : TB.E) : wp (ev cf gc (.chain o1 o2 a b c) ρ) st P E = wp (ev cf gc a ρ) st (fun x st1 => wp (ev cf gc b ρ) st1 (fun y st2 => wp (cmpG o1 x y) st2 (fun z st3 => lk (asB z) fun k => if k then wp (ev cf gc c ρ) st3 (fun w st4 => wp (cmpG o2 y w) st4 P E) E else P (.bl false) st3) E) E) E := by
  rw [ev]
  show wp (M.bind _ _) st P E = _
  rw [wp_bind]; congr 1; funext d st1; rw [wp_bind]; congr 1; funext d st1; rw [wp_bind]; congr 1; funext d st1; rw [wp_bind, wp_look]; congr 1; funext k; cases k
  · rfl
  · exact wp_bind _ _
@[simp ↓] theorem we_ite (c a b : TB.E) : wp (ev cf gc (.ite c a b) ρ) st P E = wp (tst cf gc c ρ) st (fun k st1 => if k then wp (ev cf gc a ρ) st1 P E else wp (ev cf gc b ρ) st1 P E) E := by
  rw [ev]
  show wp (M.bind _ _) st P E = _
  rw [wp_bind]; congr 1; funext k st1; cases k <;> rfl
@[simp ↓] theorem we_tup (es : Es) : wp (ev cf gc (.tup es) ρ) st P E = wp (evs cf gc es ρ) st (fun l st1 => l.length ≤ sizeLine ∧ P (.tup l) st1) E := by
  rw [ev]
  show wp (M.bind _ _) st P E = _
  rw [wp_bind]; congr 1; funext l st1; exact wp_mkT l
@[simp ↓] theorem we_lst (m : Bool) (es : Es) : wp (ev cf gc (.lst m es) ρ) st P E = wp (evs cf gc es ρ) st (fun l st1 => wp (mkL m l) st1 P E) E := by
  rw [ev]
  exact wp_bind _ _
@[simp ↓] theorem we_call (f : Str) (n : Nat) (es : Es) : wp (ev cf gc (.call f n es) ρ) st P E = wp (evs cf gc es ρ) st (fun l st1 => if l.length = n then wp (cf f l) st1 P E else False) E := by
  rw [ev]
  show wp (M.bind _ _) st P E = _
  rw [wp_bind]; congr 1; funext l st1; rw [wp_ite]; rfl
@[simp ↓] theorem we_blt (f : Blt) (a : TB.E) : wp (ev cf gc (.blt f a) ρ) st P E = wp (ev cf gc a ρ) st (fun d st1 => wp (f.g [d]) st1 P E) E := by
  rw [ev]
  show wp (M.bind (M.bind _ _) _) st P E = _
  rw [wp_bind, wp_bind]; congr 1
@[simp ↓] theorem we_isi (T : Ty) (a : TB.E) : wp (ev cf gc (.isi T a) ρ) st P E = wp (ev cf gc a ρ) st (fun d st1 => lk ((tyName st1 d).bind fun n => TB.isi n T.nm) fun b => P (.bl b) st1) E := by
  rw [ev]
  show wp (M.bind _ _) st P E = _
  rw [wp_bind]; congr 1; funext d st1; show wp (M.look _) st1 P E = _; rw [wp_look]; rcases (tyName st1 d).bind fun n => TB.isi n T.nm with _ | b <;> rfl
@[simp ↓] theorem we_bm (f : Bm) (o : TB.E) (es : Es) : wp (ev cf gc (.bm f o es) ρ) st P E = wp (ev cf gc o ρ) st (fun d st1 => if btOk st1 d f.T then wp (evs cf gc es ρ) st1 (fun l st2 => wp (f.g d l) st2 P E) E else False) E := by
  rw [ev]
  show wp (M.bind _ _) st P E = _
  rw [wp_bind]; congr 1; funext d st1; rw [wp_bind, wp_look]; cases btOk st1 d f.T
  · rfl
  · exact wp_bind _ _
@[simp ↓] theorem we_slc (m : Bool) (o : TB.E) (lo hi : Eo) : wp (ev cf gc (.slc m o lo hi) ρ) st P E = wp (ev cf gc o ρ) st (fun d st1 => wp (evo cf gc lo ρ) st1 (fun a st2 => wp (evo cf gc hi ρ) st2 (fun b st3 => wp (slcT m d a b) st3 P E) E) E) E := by
  rw [ev]
  show wp (M.bind _ _) st P E = _
  rw [wp_bind]; congr 1; funext d st1; rw [wp_bind]; congr 1; funext d st1; rw [wp_bind]
@[simp ↓] theorem we_onone {PO : Option Int → Sto → Prop} : wp (evo cf gc .none ρ) st PO E = PO none st := by rw [evo]; rfl
@[simp ↓] theorem we_osome {PO : Option Int → Sto → Prop} (e : TB.E) : wp (evo cf gc (.some e) ρ) st PO E = wp (ev cf gc e ρ) st (fun d st1 => lk (asI d) fun i => PO (some i) st1) E := by
  rw [evo]
  show wp (M.bind _ _) st PO E = _
  rw [wp_bind]; congr 1; funext d st1; rw [wp_look]; cases asI d <;> rfl
@[simp ↓] theorem we_rev (m : Bool) (o : TB.E) : wp (ev cf gc (.rev m o) ρ) st P E = wp (ev cf gc o ρ) st (fun d st1 => wp (gRev m d) st1 P E) E := by
  rw [ev]; exact wp_bind _ _
/-- a comprehension -/
@[simp ↓] theorem we_lc (m : Bool) (own : List (Str × Nat)) (t : Tg) (it : It) (c : Eo) (e : TB.E) : wp (ev cf gc (.lc m own t it c e) ρ) st P E = wp (evi cf gc it ρ) st (fun src st1 => wp (lcG src t (own.map (·.2)) (evc cf gc c) (ev cf gc e) ρ src.items) st1 (fun l st2 => wp (mkL m l) st2 P E) E) E := by
  rw [ev]
  show wp (M.bind _ _) st P E = _
  rw [wp_bind]; congr 1; funext d st1; rw [wp_bind]
@[simp ↓] theorem wi_seq {PI : Src → Sto → Prop} (e : TB.E) : wp (evi cf gc (.seq e) ρ) st PI E = wp (ev cf gc e ρ) st (fun d st1 => lk (srcQ st1 d) fun s => PI s st1) E := by
  rw [evi]
  show wp (M.bind _ _) st PI E = _
  rw [wp_bind]; congr 1; funext d st1; rw [wp_look]
@[simp ↓] theorem wi_rng1 {PI : Src → Sto → Prop} (e : TB.E) : wp (evi cf gc (.rng1 e) ρ) st PI E = wp (ev cf gc e ρ) st (fun d st1 => lk (srcR1 d) fun s => PI s st1) E := by
  rw [evi]
  show wp (M.bind _ _) st PI E = _
  rw [wp_bind]; congr 1; funext d st1; rw [wp_look]
@[simp ↓] theorem wi_zip {PI : Src → Sto → Prop} (a b : TB.E) : wp (evi cf gc (.zip a b) ρ) st PI E = wp (ev cf gc a ρ) st (fun x st1 => wp (ev cf gc b ρ) st1 (fun y st2 => lk (srcZ [x, y]) fun s => PI s st2) E) E := by
  rw [evi]
  show wp (M.bind (M.bind (ev cf gc a ρ) fun d => M.bind (M.bind (ev cf gc b ρ) fun d2 => M.bind (M.pure []) fun l => M.pure (d2 :: l)) fun l => M.pure (d :: l)) fun ds => M.look fun _ => srcZ ds) st PI E = _
  rw [wp_bind, wp_bind]; congr 1; funext d st1
  show wp (M.bind (M.bind (ev cf gc b ρ) fun d2 => M.bind (M.pure []) fun l => M.pure (d2 :: l)) fun l => M.pure (d :: l)) st1 _ E = _
  rw [wp_bind, wp_bind]; congr 1; funext d2 st2
  exact wp_look _
@[simp ↓] theorem wa_nil : wp (evs cf gc .nil ρ) st PL E = PL [] st := by rw [evs]; rfl
@[simp ↓] theorem wa_cons (e : TB.E) (es : Es) : wp (evs cf gc (.cons e es) ρ) st PL E = wp (ev cf gc e ρ) st (fun d st1 => wp (evs cf gc es ρ) st1 (fun l st2 => PL (d :: l) st2) E) E := by
  rw [evs]
  show wp (M.bind _ _) st PL E = _
  rw [wp_bind]; congr 1; funext d st1; rw [wp_bind]; rfl
/-- tests -/
@[simp ↓] theorem wt_not (a : TB.E) : wp (tst cf gc (.not a) ρ) st PB E = wp (tst cf gc a ρ) st (fun k st1 => PB (!k) st1) E := by
  rw [tst]; exact wp_bind _ _
@[simp ↓] theorem wt_band (es : Es) : wp (tst cf gc (.band es) ρ) st PB E = wp (tstAnd cf gc es ρ) st PB E := by rw [tst]
@[simp ↓] theorem wt_bor (es : Es) : wp (tst cf gc (.bor es) ρ) st PB E = wp (tstOr cf gc es ρ) st PB E := by rw [tst]
@[simp ↓] theorem wt_and1 (e : TB.E) : wp (tstAnd cf gc (.cons e .nil) ρ) st PB E = wp (tst cf gc e ρ) st PB E := by rw [tstAnd]
@[simp ↓] theorem wt_or1 (e : TB.E) : wp (tstOr cf gc (.cons e .nil) ρ) st PB E = wp (tst cf gc e ρ) st PB E := by rw [tstOr]
@[simp ↓] theorem wt_and2 (e e2 : TB.E) (es : Es) : wp (tstAnd cf gc (.cons e (.cons e2 es)) ρ) st PB E = wp (tst cf gc e ρ) st (fun k st1 => if k then wp (tstAnd cf gc (.cons e2 es) ρ) st1 PB E else PB false st1) E := by
  rw [tstAnd]
  · show wp (M.bind _ _) st PB E = _
    rw [wp_bind]; congr 1; funext k st1; cases k <;> rfl
  · exact fun h => by cases h
@[simp ↓] theorem wt_or2 (e e2 : TB.E) (es : Es) : wp (tstOr cf gc (.cons e (.cons e2 es)) ρ) st PB E = wp (tst cf gc e ρ) st (fun k st1 => if k then PB true st1 else wp (tstOr cf gc (.cons e2 es) ρ) st1 PB E) E := by
  rw [tstOr]
  · show wp (M.bind _ _) st PB E = _
    rw [wp_bind]; congr 1; funext k st1; cases k <;> rfl
  · exact fun h => by cases h
theorem w_B (m : Lo → M D) : wp (mB m ρ) st PB E = wp (m ρ) st (fun d st1 => lk (asB d) fun k => PB k st1) E := by
  show wp (M.bind _ _) st PB E = _
  rw [wp_bind]; congr 1; funext d st1; rw [wp_look]
theorem w_tru (m : Lo → M D) : wp (mTru m ρ) st PB E = wp (m ρ) st (fun d st1 => lk (truth st1 d) fun k => PB k st1) E := by
  show wp (M.bind _ _) st PB E = _
  rw [wp_bind]; congr 1; funext d st1; rw [wp_look]
@[simp ↓] theorem wt_cmp (op : CmpOp) (a b : TB.E) : wp (tst cf gc (.cmp op a b) ρ) st PB E = wp (ev cf gc (.cmp op a b) ρ) st (fun d st1 => lk (asB d) fun k => PB k st1) E := by rw [tst, ev]; exact w_B _
@[simp ↓] theorem wt_chain (o1 o2 : CmpOp) (a b c : TB.E) : wp (tst cf gc (.chain o1 o2 a b c) ρ) st PB E = wp (ev cf gc (.chain o1 o2 a b c) ρ) st (fun d st1 => lk (asB d) fun k => PB k st1) E := by rw [tst, ev]; exact w_B _
@[simp ↓] theorem wt_var (i : Nat) : wp (tst cf gc (.var i) ρ) st PB E = wp (ev cf gc (.var i) ρ) st (fun d st1 => lk (truth st1 d) fun k => PB k st1) E := by rw [tst, ev]; exact w_tru _
@[simp ↓] theorem wt_bl (i : Bool) : wp (tst cf gc (.bl i) ρ) st PB E = PB i st := by rw [tst]; rw [w_tru]; rfl
@[simp ↓] theorem wt_call (f : Str) (n : Nat) (es : Es) : wp (tst cf gc (.call f n es) ρ) st PB E = wp (ev cf gc (.call f n es) ρ) st (fun d st1 => lk (truth st1 d) fun k => PB k st1) E := by rw [tst, ev]; exact w_tru _
@[simp ↓] theorem wt_blt (f : Blt) (a : TB.E) : wp (tst cf gc (.blt f a) ρ) st PB E = wp (ev cf gc (.blt f a) ρ) st (fun d st1 => lk (truth st1 d) fun k => PB k st1) E := by rw [tst, ev]; exact w_tru _
@[simp ↓] theorem wt_isi (T : Ty) (a : TB.E) : wp (tst cf gc (.isi T a) ρ) st PB E = wp (ev cf gc (.isi T a) ρ) st (fun d st1 => lk (truth st1 d) fun k => PB k st1) E := by rw [tst, ev]; exact w_tru _
@[simp ↓] theorem wt_idx (a b : TB.E) : wp (tst cf gc (.idx a b) ρ) st PB E = wp (ev cf gc (.idx a b) ρ) st (fun d st1 => lk (truth st1 d) fun k => PB k st1) E := by rw [tst, ev]; exact w_tru _
@[simp ↓] theorem wt_bin (op : Bop) (a b : TB.E) : wp (tst cf gc (.bin op a b) ρ) st PB E = wp (ev cf gc (.bin op a b) ρ) st (fun d st1 => lk (truth st1 d) fun k => PB k st1) E := by rw [tst, ev]; exact w_tru _
@[simp ↓] theorem wt_slc (m : Bool) (a : TB.E) (lo hi : Eo) : wp (tst cf gc (.slc m a lo hi) ρ) st PB E = wp (ev cf gc (.slc m a lo hi) ρ) st (fun d st1 => lk (truth st1 d) fun k => PB k st1) E := by rw [tst, ev]; exact w_tru _
@[simp ↓] theorem wt_lc (m : Bool) (own : List (Str × Nat)) (t : Tg) (it : It) (c : Eo) (e : TB.E) : wp (tst cf gc (.lc m own t it c e) ρ) st PB E = wp (ev cf gc (.lc m own t it c e) ρ) st (fun d st1 => lk (truth st1 d) fun k => PB k st1) E := by rw [tst, ev]; exact w_tru _
/-- a comprehension's condition -/
@[simp ↓] theorem wc_none : wp (evc cf gc .none ρ) st PB E = PB true st := by rw [evc]; rfl
@[simp ↓] theorem wc_some (e : TB.E) : wp (evc cf gc (.some e) ρ) st PB E = wp (tst cf gc e ρ) st PB E := by rw [evc]
/-! statements -/
variable {Q : Out → Sto → Prop}
theorem w_lift {τ : Type} (m : M τ) (k : τ → Sto → Option (Out × Sto)) : (match liftE m ρ k st with | some (o, st1) => Q o st1 | none => False) = wp m st (fun t st1 => match k t st1 with | some (o, st1) => Q o st1 | none => False) (fun c st1 => Q (.ex c ρ) st1) := by
  unfold liftE wp
  rcases m st with _ | ⟨⟨t⟩ | ⟨c⟩, st1⟩ <;> rfl
@[simp ↓] theorem ws_nil : wpS (exSs cf gc .nil) ρ st Q = Q (.nx ρ) st := by rw [exSs]; rfl
def seqQ (cf : Str → List D → M D) (gc : Str → Option D) (ss : Ss) (Q : Out → Sto → Prop) : Out → Sto → Prop
  | .nx ρ, st => wpS (exSs cf gc ss) ρ st Q
  | o, st => Q o st
@[simp ↓] theorem ws_cons (s : S) (ss : Ss) : wpS (exSs cf gc (.cons s ss)) ρ st Q = wpS (exS cf gc s) ρ st (seqQ cf gc ss Q) := by
  rw [exSs]
  unfold wpS sSeq
  rcases exS cf gc s ρ st with _ | ⟨_ | _ | _ | _ | _, st1⟩ <;> rfl
@[simp ↓] theorem seqQ_nx (ss : Ss) : seqQ cf gc ss Q (.nx ρ) st = wpS (exSs cf gc ss) ρ st Q := rfl
@[simp ↓] theorem seqQ_rt (ss : Ss) (d : D) : seqQ cf gc ss Q (.rt d) st = Q (.rt d) st := rfl
@[simp ↓] theorem seqQ_bk (ss : Ss) : seqQ cf gc ss Q (.bk ρ) st = Q (.bk ρ) st := rfl
@[simp ↓] theorem seqQ_ct (ss : Ss) : seqQ cf gc ss Q (.ct ρ) st = Q (.ct ρ) st := rfl
@[simp ↓] theorem seqQ_ex (ss : Ss) (c : Str) : seqQ cf gc ss Q (.ex c ρ) st = Q (.ex c ρ) st := rfl
@[simp ↓] theorem ws_pass : wpS (exS cf gc .pass) ρ st Q = Q (.nx ρ) st := by rw [exS]; rfl
@[simp ↓] theorem ws_brk : wpS (exS cf gc .brk) ρ st Q = Q (.bk ρ) st := by rw [exS]; rfl
@[simp ↓] theorem ws_cont : wpS (exS cf gc .cont) ρ st Q = Q (.ct ρ) st := by rw [exS]; rfl
@[simp ↓] theorem ws_expr (e : TB.E) : wpS (exS cf gc (.expr e)) ρ st Q = wp (ev cf gc e ρ) st (fun _ st1 => Q (.nx ρ) st1) (fun c st1 => Q (.ex c ρ) st1) := by rw [exS]; exact w_lift _ _
@[simp ↓] theorem ws_ret (e : TB.E) : wpS (exS cf gc (.ret e)) ρ st Q = wp (ev cf gc e ρ) st (fun d st1 => Q (.rt d) st1) (fun c st1 => Q (.ex c ρ) st1) := by rw [exS]; exact w_lift _ _
@[simp ↓] theorem ws_asg (t : Tg) (e : TB.E) : wpS (exS cf gc (.asg t e)) ρ st Q = wp (ev cf gc e ρ) st (fun d st1 => lk (bindT t d ρ) fun ρ1 => Q (.nx ρ1) st1) (fun c st1 => Q (.ex c ρ) st1) := by
  rw [exS]; refine (w_lift _ _).trans ?_; congr 1; funext d st1; cases bindT t d ρ <;> rfl
@[simp ↓] theorem ws_par (i j : Nat) (a b : TB.E) : wpS (exS cf gc (.par i j a b)) ρ st Q = wp (ev cf gc a ρ) st (fun x st1 => wp (ev cf gc b ρ) st1 (fun y st2 => Q (.nx ((ρ.set i (some x)).set j (some y))) st2) (fun c st1 => Q (.ex c ρ) st1)) (fun c st1 => Q (.ex c ρ) st1) := by
  rw [exS]; refine (w_lift _ _).trans ?_; rw [wp_bind]; congr 1; funext d st1; rw [wp_bind]; congr 1
@[simp ↓] theorem ws_if (c : TB.E) (a b : Ss) : wpS (exS cf gc (.ife c a b)) ρ st Q = wp (tst cf gc c ρ) st (fun k st1 => if k then wpS (exSs cf gc a) ρ st1 Q else wpS (exSs cf gc b) ρ st1 Q) (fun c st1 => Q (.ex c ρ) st1) := by
  rw [exS]; refine (w_lift _ _).trans ?_; congr 1; funext k st1; cases k <;> rfl
@[simp ↓] theorem ws_for (t : Tg) (it : It) (b : Ss) : wpS (exS cf gc (.for_ t it b)) ρ st Q = wp (evi cf gc it ρ) st (fun src st1 => wpS (loopF src t (exSs cf gc b) src.items) ρ st1 Q) (fun c st1 => Q (.ex c ρ) st1) := by
  rw [exS]; exact w_lift _ _
@[simp ↓] theorem ws_raise (c : Str) : wpS (exS cf gc (.raise c)) ρ st Q = Q (.ex c ρ) st := by rw [exS]; rfl
def tryQ (known : List Str) (hs : List (Str × Hd)) (Q : Out → Sto → Prop) : Out → Sto → Prop
  | .ex c ρ1, st1 => c ∈ known ∧ (match lkH c hs with
    | some h => Q (h.out ρ1) st1
    | none => Q (.ex c ρ1) st1)
  | o, st1 => Q o st1
@[simp ↓] theorem tryQ_nx (known : List Str) (hs : List (Str × Hd)) : tryQ known hs Q (.nx ρ) st = Q (.nx ρ) st := rfl
@[simp ↓] theorem tryQ_rt (known : List Str) (hs : List (Str × Hd)) (d : D) : tryQ known hs Q (.rt d) st = Q (.rt d) st := rfl
@[simp ↓] theorem tryQ_ex (known : List Str) (hs : List (Str × Hd)) (c : Str) : tryQ known hs Q (.ex c ρ) st = (c ∈ known ∧ (match lkH c hs with
    | some h => Q (h.out ρ) st
    | none => Q (.ex c ρ) st)) := rfl
@[simp ↓] theorem ws_try (known : List Str) (b : Ss) (hs : List (Str × Hd)) : wpS (exS cf gc (.try_ known b hs)) ρ st Q = wpS (exSs cf gc b) ρ st (tryQ known hs Q) := by
  rw [exS]
  unfold wpS sTry
  rcases exSs cf gc b ρ st with _ | ⟨_ | _ | _ | _ | ⟨c, ρ1⟩, st1⟩ <;> try rfl
  dsimp only [tryQ]
  by_cases h : c ∈ known
  · rw [if_pos h]
    simp only [h, true_and]
    cases lkH c hs <;> rfl
  · rw [if_neg h]
    simp only [h, false_and]
@[simp ↓] theorem ws_whl (n : Nat) (c : TB.E) (b : Ss) : wpS (exS cf gc (.whl n c b)) ρ st Q = wpS (loopW (tst cf gc c) (exSs cf gc b) n) ρ st Q := by
  rw [exS]; rfl
end
/-! ### loops -/
inductive All2 (R : D → D → Prop) : List D → List D → Prop
  | nil : All2 R [] []
  | cons {a b : D} {l m : List D} : R a b → All2 R l m → All2 R (a :: l) (b :: m)
theorem All2.right {R : D → D → Prop} {S : D → Prop} (h : ∀ a b, R a b → S b) : ∀ {l m : List D}, All2 R l m → ∀ y ∈ m, S y
  | _, _, .nil => by simp
  | _, _, .cons r t => by
    intro y hy
    rcases List.mem_cons.mp hy with rfl | hy
    · exact h _ _ r
    · exact All2.right h t y hy
theorem All2.length {R : D → D → Prop} : ∀ {l m : List D}, All2 R l m → l.length = m.length
  | _, _, .nil => rfl
  | _, _, .cons r t => by rw [List.length_cons, List.length_cons, All2.length t]
section
/-- a for: an order of the items left, kept by each turn -/
theorem loop_inv {src : Src} {t : Tg} {body : MS} {Q : Out → Sto → Prop} (I : List D → Lo → Sto → Prop)
    (hok : ∀ ds ρ st, I ds ρ st → src.ok st)
    (step : ∀ d ds ρ st, I (d :: ds) ρ st → ∃ ρ1, bindT t d ρ = some ρ1 ∧ wpS body ρ1 st fun o st1 => match o with
      | .nx ρ2 => I ds ρ2 st1
      | .ct ρ2 => I ds ρ2 st1
      | .bk ρ2 => Q (.nx ρ2) st1
      | o => Q o st1)
    (fin : ∀ ρ st, I [] ρ st → Q (.nx ρ) st) :
    ∀ ds ρ st, I ds ρ st → wpS (loopF src t body ds) ρ st Q
  | [], ρ, st, h => by
    unfold wpS loopF
    rw [if_pos (hok _ _ _ h)]
    exact fin ρ st h
  | d :: ds, ρ, st, h => by
    obtain ⟨ρ1, e, w⟩ := step d ds ρ st h
    unfold wpS at w ⊢
    rw [loopF]
    dsimp only
    rw [if_pos (hok _ _ _ h), e]
    dsimp only
    revert w
    rcases body ρ1 st with _ | ⟨_ | _ | _ | _ | _, st1⟩ <;> intro w
    · exact w
    · exact loop_inv I hok step fin ds _ _ w
    · exact w
    · exact loop_inv I hok step fin ds _ _ w
    · exact w
    · exact w
theorem loopW_stop {c : Lo → M Bool} {body : MS} {n : Nat} {ρ : Lo} {st : Sto} {Q : Out → Sto → Prop} : wpS (loopW c body (n + 1)) ρ st Q = wp (c ρ) st (fun k st1 => if k then wpS body ρ st1 (fun o st2 => match o with
      | .nx ρ2 => wpS (loopW c body n) ρ2 st2 Q
      | .ct ρ2 => wpS (loopW c body n) ρ2 st2 Q
      | .bk ρ2 => Q (.nx ρ2) st2
      | o => Q o st2) else Q (.nx ρ) st1) (fun c st1 => Q (.ex c ρ) st1) := by
  refine (w_lift (c ρ) _).trans ?_
  congr 1; funext k st1
  cases k
  · rfl
  · unfold wpS
    rw [if_pos rfl, if_pos rfl]
    rcases body ρ st1 with _ | ⟨_ | _ | _ | _ | _, st1⟩ <;> rfl
/-- a comprehension: what each item gives -/
theorem lc_nil {src : Src} {t : Tg} {own : List Nat} {tc : Lo → M Bool} {me : Lo → M D} {ρ : Lo} {st : Sto} {P : List D → Sto → Prop} {E : Str → Sto → Prop} (h : src.ok st) : wp (lcG src t own tc me ρ []) st P E = P [] st := by
  unfold wp lcG
  rw [if_pos h]
theorem lc_cons {src : Src} {t : Tg} {own : List Nat} {tc : Lo → M Bool} {me : Lo → M D} {ρ : Lo} {st : Sto} {P : List D → Sto → Prop} {E : Str → Sto → Prop} (d : D) (ds : List D) (h : src.ok st) :
    wp (lcG src t own tc me ρ (d :: ds)) st P E = lk (bindT t d (wipeD ρ own)) fun ρ1 => wp (tc ρ1) st (fun k st1 => if k then wp (me ρ1) st1 (fun y st2 => wp (lcG src t own tc me ρ ds) st2 (fun r st3 => P (y :: r) st3) E) noX else wp (lcG src t own tc me ρ ds) st1 P E) noX := by
  show wp (fun st => _) st P E = _
  rw [lcG]
  unfold wp
  dsimp only
  rw [if_pos h]
  rcases bindT t d (wipeD ρ own) with _ | ρ1
  · rfl
  · show wp (M.bind _ _) st P E = _
    rw [wp_bind, wp_quiet]
    show wp _ _ _ _ = wp _ _ _ _
    congr 1
    funext k st1
    cases k
    · rfl
    · show wp (M.bind _ _) st1 P E = wp _ _ _ _
      rw [wp_bind, wp_quiet]
      congr 1
      funext y st2
      rw [wp_bind]
      rfl
/-- a list of values read with no condition, the store told on -/
theorem lc_inv {src : Src} {t : Tg} {own : List Nat} {me : Lo → M D} {ρ : Lo} {cf : Str → List D → M D} {gc : Str → Option D} {E : Str → Sto → Prop} (I : List D → Sto → Prop) (R : D → D → Prop)
    (hok : ∀ ds st, I ds st → src.ok st)
    (step : ∀ d ds st, I (d :: ds) st → ∃ ρ1, bindT t d (wipeD ρ own) = some ρ1 ∧ wp (me ρ1) st (fun y st1 => I ds st1 ∧ R d y) noX) :
    ∀ ds st (P : List D → Sto → Prop), I ds st → (∀ r st1, I [] st1 → All2 R ds r → P r st1) → wp (lcG src t own (evc cf gc .none) me ρ ds) st P E
  | [], st, P, h, k => by
    rw [lc_nil (hok _ _ h)]
    exact k [] st h .nil
  | d :: ds, st, P, h, k => by
    obtain ⟨ρ1, e, w⟩ := step d ds st h
    rw [lc_cons d ds (hok _ _ h), e, lk_some, wc_none, if_pos rfl]
    refine wp_go w fun y st1 ⟨h1, h2⟩ => ?_
    exact lc_inv I R hok step ds st1 _ h1 fun r st2 h3 h4 => k _ _ h3 (.cons h2 h4)
/-- a comprehension that leaves the store alone -/
theorem lc_pure {src : Src} {t : Tg} {own : List Nat} {tc : Lo → M Bool} {me : Lo → M D} {ρ : Lo} {st : Sto} {E : Str → Sto → Prop} (ρ1 : D → Lo) (c : D → Bool) (f : D → D) (hs : src.ok st) :
    ∀ (ds : List D) (P : List D → Sto → Prop), (∀ d ∈ ds, bindT t d (wipeD ρ own) = some (ρ1 d)) → (∀ d ∈ ds, ∀ P, wp (tc (ρ1 d)) st P noX = P (c d) st) → (∀ d ∈ ds, c d = true → ∀ P, wp (me (ρ1 d)) st P noX = P (f d) st) → wp (lcG src t own tc me ρ ds) st P E = P ((ds.filter c).map f) st
  | [], P, hb, hc, hm => lc_nil hs
  | d :: ds, P, hb, hc, hm => by
    rw [lc_cons d ds hs, hb d List.mem_cons_self, lk_some, hc d List.mem_cons_self]
    have ih := fun P => lc_pure (E := E) ρ1 c f hs ds P (fun e h => hb e (List.mem_cons_of_mem _ h)) (fun e h => hc e (List.mem_cons_of_mem _ h)) (fun e h => hm e (List.mem_cons_of_mem _ h))
    by_cases h : c d = true
    · rw [if_pos h, hm d List.mem_cons_self h, ih, List.filter_cons_of_pos h, List.map_cons]
    · rw [if_neg h, ih, List.filter_cons_of_neg h]
theorem lc_map {src : Src} {t : Tg} {own : List Nat} {cf : Str → List D → M D} {gc : Str → Option D} {me : Lo → M D} {ρ : Lo} {st : Sto} {E : Str → Sto → Prop} {ds : List D} {P : List D → Sto → Prop} (ρ1 : D → Lo) (f : D → D) (hs : src.ok st)
    (hb : ∀ d ∈ ds, bindT t d (wipeD ρ own) = some (ρ1 d)) (hm : ∀ d ∈ ds, ∀ P, wp (me (ρ1 d)) st P noX = P (f d) st) : wp (lcG src t own (evc cf gc .none) me ρ ds) st P E = P (ds.map f) st := by
  rw [lc_pure ρ1 (fun _ => true) f hs ds P hb (fun d _ P => wc_none) (fun d h _ => hm d h), List.filter_eq_self.mpr (fun _ _ => rfl)]
theorem boolsOf_map {τ : Type} (f : τ → Bool) : ∀ l : List τ, boolsOf (l.map fun x => .bl (f x)) = some (l.map f)
  | [] => rfl
  | x :: l => by
    show (boolsOf (l.map fun x => .bl (f x))).map (f x :: ·) = _
    rw [boolsOf_map f l]; rfl
end
/-! ### defs -/
theorem drop_same {st st1 : Sto} {d : D} (h : st1.length = st.length) (hd : ∀ i, d = .ref i → i < st.length) : dropM st (.ok d) st1 = some (.ok d, st1) := by
  unfold dropM
  have e : frz st.length st1 d = d := by
    unfold frz
    split
    · rw [if_pos (hd _ rfl)]
    · rfl
  dsimp only
  rw [e, ← h, List.take_length]
  split <;> rfl
theorem cfN_get {T : Tab} {gc : Str → Option D} {n : Nat} {f : Str} {d : Def} (h : T.get f = some d) : cfN T gc (n + 1) f = fnRun d.N.length (exSs (cfN T gc n) gc d.body) := by
  show (match T.get f with | none => fun _ => M.stuck | some d => fnRun d.N.length (exSs (cfN T gc n) gc d.body)) = _
  rw [h]
/-- what a def's body must end in -/
def fnQ (st : Sto) (P : D → Sto → Prop) (E : Str → Sto → Prop) : Out → Sto → Prop
  | .nx _, st1 => wp (fun _ => dropM st (.ok .non) st1) st P E
  | .rt d, st1 => wp (fun _ => dropM st (.ok d) st1) st P E
  | .ex c _, st1 => wp (fun _ => dropM st (.exn c) st1) st P E
  | _, _ => False
theorem w_fn {T : Tab} {gc : Str → Option D} {n : Nat} {f : Str} {d : Def} (h : T.get f = some d) {ds : List D} {st : Sto} {P : D → Sto → Prop} {E : Str → Sto → Prop} :
    wp (cfN T gc (n + 1) f ds) st P E = wpS (exSs (cfN T gc n) gc d.body) (ds.map some ++ List.replicate (d.N.length - ds.length) none) st (fnQ st P E) := by
  rw [cfN_get h]
  unfold wp wpS fnRun
  rcases exSs (cfN T gc n) gc d.body (ds.map some ++ List.replicate (d.N.length - ds.length) none) st with _ | ⟨_ | _ | _ | _ | _, st1⟩ <;> rfl
theorem fnQ_ex {st : Sto} {P : D → Sto → Prop} {E : Str → Sto → Prop} {c : Str} {ρ : Lo} : fnQ st P E (.ex c ρ) st = E c st := by
  show wp _ _ _ _ = _
  unfold wp dropM
  simp
theorem fnQ_rt {st st1 : Sto} {P : D → Sto → Prop} {E : Str → Sto → Prop} {d : D} (h : st1.length = st.length) (hd : ∀ i, d = .ref i → i < st.length) : fnQ st P E (.rt d) st1 = P d st1 := by
  show wp _ _ _ _ = _
  unfold wp
  rw [drop_same h hd]
theorem fnQ_nx {st st1 : Sto} {P : D → Sto → Prop} {E : Str → Sto → Prop} {ρ : Lo} (h : st1.length = st.length) : fnQ st P E (.nx ρ) st1 = P .non st1 := by
  show wp _ _ _ _ = _
  unfold wp
  rw [drop_same h (fun i e => by cases e)]
@[simp ↓] theorem fnQ_bl {st : Sto} {P : D → Sto → Prop} {E : Str → Sto → Prop} {b : Bool} : fnQ st P E (.rt (.bl b)) st = P (.bl b) st := fnQ_rt rfl fun i e => by cases e
@[simp] theorem q_asB (b : Bool) : asB (.bl b) = some b := rfl
@[simp] theorem q_asI (i : Int) : asI (.int i) = some i := rfl
@[simp] theorem q_tr_non {st : Sto} : truth st .non = some false := rfl
@[simp] theorem q_tr_bl {st : Sto} (b : Bool) : truth st (.bl b) = some b := rfl
@[simp] theorem q_tr_int {st : Sto} (i : Int) : truth st (.int i) = some (i != 0) := rfl
@[simp] theorem q_tr_str {st : Sto} (x : Str) : truth st (.str x) = some (x.length != 0) := rfl
@[simp] theorem q_tr_tup {st : Sto} (l : List D) : truth st (.tup l) = some (!l.isEmpty) := rfl
@[simp] theorem q_tr_lst {st : Sto} (l : List D) : truth st (.lst l) = some (!l.isEmpty) := rfl
@[simp] theorem q_tr_scr {st : Sto} (l : List Int) : truth st (.scr l) = some (!l.isEmpty) := rfl
@[simp] theorem q_ty_non {st : Sto} : tyName st .non = some "NoneType" := rfl
@[simp] theorem q_isi_NoneType_str : TB.isi "NoneType" "str" = some false := by decide +kernel
@[simp] theorem q_isi_NoneType_int : TB.isi "NoneType" "int" = some false := by decide +kernel
@[simp] theorem q_isi_NoneType_bool : TB.isi "NoneType" "bool" = some false := by decide +kernel
@[simp] theorem q_isi_NoneType_tuple : TB.isi "NoneType" "tuple" = some false := by decide +kernel
@[simp] theorem q_isi_NoneType_list : TB.isi "NoneType" "list" = some false := by decide +kernel
@[simp] theorem q_ty_bl {st : Sto} (b : Bool) : tyName st (.bl b) = some "bool" := rfl
@[simp] theorem q_isi_bool_str : TB.isi "bool" "str" = some false := by decide +kernel
@[simp] theorem q_isi_bool_int : TB.isi "bool" "int" = some true := by decide +kernel
@[simp] theorem q_isi_bool_bool : TB.isi "bool" "bool" = some true := by decide +kernel
@[simp] theorem q_isi_bool_tuple : TB.isi "bool" "tuple" = some false := by decide +kernel
@[simp] theorem q_isi_bool_list : TB.isi "bool" "list" = some false := by decide +kernel
@[simp] theorem q_ty_int {st : Sto} (i : Int) : tyName st (.int i) = some "int" := rfl
@[simp] theorem q_isi_int_str : TB.isi "int" "str" = some false := by decide +kernel
@[simp] theorem q_isi_int_int : TB.isi "int" "int" = some true := by decide +kernel
@[simp] theorem q_isi_int_bool : TB.isi "int" "bool" = some false := by decide +kernel
@[simp] theorem q_isi_int_tuple : TB.isi "int" "tuple" = some false := by decide +kernel
@[simp] theorem q_isi_int_list : TB.isi "int" "list" = some false := by decide +kernel
@[simp] theorem q_ty_str {st : Sto} (x : Str) : tyName st (.str x) = some "str" := rfl
@[simp] theorem q_isi_str_str : TB.isi "str" "str" = some true := by decide +kernel
@[simp] theorem q_isi_str_int : TB.isi "str" "int" = some false := by decide +kernel
@[simp] theorem q_isi_str_bool : TB.isi "str" "bool" = some false := by decide +kernel
@[simp] theorem q_isi_str_tuple : TB.isi "str" "tuple" = some false := by decide +kernel
@[simp] theorem q_isi_str_list : TB.isi "str" "list" = some false := by decide +kernel
@[simp] theorem q_ty_tup {st : Sto} (l : List D) : tyName st (.tup l) = some "tuple" := rfl
@[simp] theorem q_isi_tuple_str : TB.isi "tuple" "str" = some false := by decide +kernel
@[simp] theorem q_isi_tuple_int : TB.isi "tuple" "int" = some false := by decide +kernel
@[simp] theorem q_isi_tuple_bool : TB.isi "tuple" "bool" = some false := by decide +kernel
@[simp] theorem q_isi_tuple_tuple : TB.isi "tuple" "tuple" = some true := by decide +kernel
@[simp] theorem q_isi_tuple_list : TB.isi "tuple" "list" = some false := by decide +kernel
@[simp] theorem q_ty_lst {st : Sto} (l : List D) : tyName st (.lst l) = some "list" := rfl
@[simp] theorem q_isi_list_str : TB.isi "list" "str" = some false := by decide +kernel
@[simp] theorem q_isi_list_int : TB.isi "list" "int" = some false := by decide +kernel
@[simp] theorem q_isi_list_bool : TB.isi "list" "bool" = some false := by decide +kernel
@[simp] theorem q_isi_list_tuple : TB.isi "list" "tuple" = some false := by decide +kernel
@[simp] theorem q_isi_list_list : TB.isi "list" "list" = some true := by decide +kernel
@[simp] theorem q_ix_tup {st : Sto} (l : List D) (i : Int) : idxT st (.tup l) (.int i) = atI l i := rfl
@[simp] theorem q_ix_lst {st : Sto} (l : List D) (i : Int) : idxT st (.lst l) (.int i) = atI l i := rfl
@[simp] theorem q_ix_scr {st : Sto} (l : List Int) (i : Int) : idxT st (.scr l) (.int i) = (atI l i).map .int := rfl
@[simp] theorem q_bt_one (i : Nat) (d : D) (ρ : Lo) : bindT (.one i) d ρ = some (ρ.set i (some d)) := rfl
@[simp] theorem q_sq_lst {st : Sto} (l : List D) : srcQ st (.lst l) = some ⟨l, none⟩ := rfl
@[simp] theorem q_sq_tup {st : Sto} (l : List D) : srcQ st (.tup l) = some ⟨l, none⟩ := rfl
@[simp] theorem q_sq_str {st : Sto} (z : Str) : srcQ st (.str z) = some ⟨signs z, none⟩ := rfl
@[simp] theorem q_lo_lst {st : Sto} (l : List D) : lstOf st (.lst l) = some l := rfl
@[simp] theorem q_len_str {st : Sto} {P : D → Sto → Prop} {E : Str → Sto → Prop} (z : Str) : wp (gLen [.str z]) st P E = P (.int z.length) st := rfl
@[simp] theorem q_len_tup {st : Sto} {P : D → Sto → Prop} {E : Str → Sto → Prop} (l : List D) : wp (gLen [.tup l]) st P E = P (.int l.length) st := rfl
@[simp] theorem q_len_lst {st : Sto} {P : D → Sto → Prop} {E : Str → Sto → Prop} (l : List D) : wp (gLen [.lst l]) st P E = P (.int l.length) st := rfl
@[simp] theorem q_len_scr {st : Sto} {P : D → Sto → Prop} {E : Str → Sto → Prop} (l : List Int) : wp (gLen [.scr l]) st P E = P (.int l.length) st := rfl
@[simp] theorem q_add_int {st : Sto} {P : D → Sto → Prop} {E : Str → Sto → Prop} (m : Bool) (i j : Int) : wp (opAdd m (.int i) (.int j)) st P E = P (.int (i + j)) st := rfl
@[simp] theorem q_add_tup {st : Sto} {P : D → Sto → Prop} {E : Str → Sto → Prop} (m : Bool) (i j : List D) : wp (opAdd m (.tup i) (.tup j)) st P E = ((i ++ j).length ≤ sizeLine ∧ P (.tup (i ++ j)) st) := wp_mkT _
@[simp] theorem q_add_lst {st : Sto} {P : D → Sto → Prop} {E : Str → Sto → Prop} (m : Bool) (i j : List D) : wp (opAdd m (.lst i) (.lst j)) st P E = wp (mkL m (i ++ j)) st P E := rfl
@[simp] theorem q_sub_int {st : Sto} {P : D → Sto → Prop} {E : Str → Sto → Prop} (i j : Int) : wp (opI fSub (.int i) (.int j)) st P E = P (.int (i - j)) st := rfl
@[simp] theorem q_mod_int {st : Sto} {P : D → Sto → Prop} {E : Str → Sto → Prop} (i j : Int) : wp (opI fMod (.int i) (.int j)) st P E = (0 < j ∧ P (.int (i % j)) st) := by
  show wp (M.look _) st P E = _
  rw [wp_look]; unfold fMod; by_cases h : 0 < j <;> simp [h, lk_some, lk_none]
@[simp] theorem q_div_int {st : Sto} {P : D → Sto → Prop} {E : Str → Sto → Prop} (i j : Int) : wp (opI fDiv (.int i) (.int j)) st P E = ((0 < j ∧ j < 1073741824) ∧ P (.int (i / j)) st) := by
  show wp (M.look _) st P E = _
  rw [wp_look]; unfold fDiv; by_cases h : 0 < j ∧ j < 1073741824 <;> simp [h, lk_some, lk_none]
@[simp] theorem q_mul_int {st : Sto} {P : D → Sto → Prop} {E : Str → Sto → Prop} (m : Bool) (i j : Int) : wp (opMul m (.int i) (.int j)) st P E = (((-(2 ^ 64) < i ∧ i < 2 ^ 64) ∨ (-(2 ^ 64) < j ∧ j < 2 ^ 64)) ∧ P (.int (i * j)) st) := by
  show wp (M.look _) st P E = _
  rw [wp_look]; unfold fMul; by_cases h : (-(2 ^ 64) < i ∧ i < 2 ^ 64) ∨ (-(2 ^ 64) < j ∧ j < 2 ^ 64)
  · rw [if_pos h]; show P _ st = _; rw [eq_true h, true_and]
  · rw [if_neg h]; show False = _; rw [eq_false h, false_and]
@[simp] theorem q_oLt {st : Sto} {P : D → Sto → Prop} {E : Str → Sto → Prop} (i j : Int) : wp (opLt (.int i) (.int j)) st P E = P (.bl (decide (i < j))) st := rfl
@[simp] theorem q_oLe {st : Sto} {P : D → Sto → Prop} {E : Str → Sto → Prop} (i j : Int) : wp (opLe (.int i) (.int j)) st P E = P (.bl (decide (i ≤ j))) st := rfl
@[simp] theorem q_oGt {st : Sto} {P : D → Sto → Prop} {E : Str → Sto → Prop} (i j : Int) : wp (opGt (.int i) (.int j)) st P E = P (.bl (decide (j < i))) st := rfl
@[simp] theorem q_oGe {st : Sto} {P : D → Sto → Prop} {E : Str → Sto → Prop} (i j : Int) : wp (opGe (.int i) (.int j)) st P E = P (.bl (decide (j ≤ i))) st := rfl
@[simp] theorem q_sLt {st : Sto} {P : D → Sto → Prop} {E : Str → Sto → Prop} (i j : Str) : wp (opLt (.str i) (.str j)) st P E = P (.bl (decide (i.cps.toList < j.cps.toList))) st := rfl
@[simp] theorem q_sLe {st : Sto} {P : D → Sto → Prop} {E : Str → Sto → Prop} (i j : Str) : wp (opLe (.str i) (.str j)) st P E = P (.bl (!decide (j.cps.toList < i.cps.toList))) st := rfl
@[simp] theorem q_sGt {st : Sto} {P : D → Sto → Prop} {E : Str → Sto → Prop} (i j : Str) : wp (opGt (.str i) (.str j)) st P E = P (.bl (decide (j.cps.toList < i.cps.toList))) st := rfl
@[simp] theorem q_sGe {st : Sto} {P : D → Sto → Prop} {E : Str → Sto → Prop} (i j : Str) : wp (opGe (.str i) (.str j)) st P E = P (.bl (!decide (i.cps.toList < j.cps.toList))) st := rfl
@[simp] theorem q_eq {st : Sto} {P : D → Sto → Prop} {E : Str → Sto → Prop} (d e : D) : wp (opEq d e) st P E = lk (eqT st d e) (fun b => P (.bl b) st) := by
  show wp (M.look _) st P E = _
  rw [wp_look]; cases eqT st d e <;> rfl
@[simp] theorem q_ne {st : Sto} {P : D → Sto → Prop} {E : Str → Sto → Prop} (d e : D) : wp (opNe d e) st P E = lk (eqT st d e) (fun b => P (.bl (!b)) st) := by
  show wp (M.look _) st P E = _
  rw [wp_look]; cases eqT st d e <;> rfl
@[simp] theorem q_in {st : Sto} {P : D → Sto → Prop} {E : Str → Sto → Prop} (d e : D) : wp (opIn d e) st P E = lk (inT st d e) (fun b => P (.bl b) st) := by
  show wp (M.look _) st P E = _
  rw [wp_look]; cases inT st d e <;> rfl
@[simp] theorem q_nin {st : Sto} {P : D → Sto → Prop} {E : Str → Sto → Prop} (d e : D) : wp (opNotIn d e) st P E = lk (inT st d e) (fun b => P (.bl (!b)) st) := by
  show wp (M.look _) st P E = _
  rw [wp_look]; cases inT st d e <;> rfl
@[simp] theorem q_is_non {st : Sto} {P : D → Sto → Prop} {E : Str → Sto → Prop} (d : D) : wp (opIs d .non) st P E = P (.bl d.isNon) st := by cases d <;> rfl
@[simp] theorem q_isn_non {st : Sto} {P : D → Sto → Prop} {E : Str → Sto → Prop} (d : D) : wp (opIsNot d .non) st P E = P (.bl (!d.isNon)) st := by cases d <;> rfl
@[simp] theorem q_isn_bl (b : Bool) : D.isNon (.bl b) = false := rfl
@[simp] theorem q_isn_int (i : Int) : D.isNon (.int i) = false := rfl
@[simp] theorem q_isn_str (x : Str) : D.isNon (.str x) = false := rfl
@[simp] theorem q_isn_tup (l : List D) : D.isNon (.tup l) = false := rfl
@[simp] theorem q_isn_lst (l : List D) : D.isNon (.lst l) = false := rfl
@[simp] theorem q_isn_ref (l : Nat) : D.isNon (.ref l) = false := rfl
@[simp] theorem q_isn_scr (l : List Int) : D.isNon (.scr l) = false := rfl
@[simp] theorem q_all {st : Sto} {P : D → Sto → Prop} {E : Str → Sto → Prop} (l : List D) : wp (gAll [.lst l]) st P E = lk (boolsOf l) (fun bs => P (.bl (bs.all id)) st) := by
  show wp (M.look _) st P E = _
  rw [wp_look]; show lk (Option.map _ (boolsOf l)) _ = _; cases boolsOf l <;> rfl
@[simp] theorem q_any {st : Sto} {P : D → Sto → Prop} {E : Str → Sto → Prop} (l : List D) : wp (gAny [.lst l]) st P E = lk (boolsOf l) (fun bs => P (.bl (bs.any id)) st) := by
  show wp (M.look _) st P E = _
  rw [wp_look]; show lk (Option.map _ (boolsOf l)) _ = _; cases boolsOf l <;> rfl
@[simp] theorem q_list_tup {st : Sto} {P : D → Sto → Prop} {E : Str → Sto → Prop} (m : Bool) (l : List D) : wp (gList m [.tup l]) st P E = wp (mkL m l) st P E := rfl
@[simp] theorem q_list_lst {st : Sto} {P : D → Sto → Prop} {E : Str → Sto → Prop} (m : Bool) (l : List D) : wp (gList m [.lst l]) st P E = wp (mkL m l) st P E := rfl
@[simp] theorem q_tup_tup {st : Sto} {P : D → Sto → Prop} {E : Str → Sto → Prop} (l : List D) : wp (gTuple [.tup l]) st P E = P (.tup l) st := rfl
@[simp] theorem q_tup_lst {st : Sto} {P : D → Sto → Prop} {E : Str → Sto → Prop} (l : List D) : wp (gTuple [.lst l]) st P E = (l.length ≤ sizeLine ∧ P (.tup l) st) := wp_mkT _
@[simp] theorem q_rev_tup {st : Sto} {P : D → Sto → Prop} {E : Str → Sto → Prop} (m : Bool) (l : List D) : wp (gRev m (.tup l)) st P E = P (.tup l.reverse) st := rfl
@[simp] theorem q_rev_lst {st : Sto} {P : D → Sto → Prop} {E : Str → Sto → Prop} (m : Bool) (l : List D) : wp (gRev m (.lst l)) st P E = wp (mkL m l.reverse) st P E := rfl
@[simp] theorem q_slc_tup {st : Sto} {P : D → Sto → Prop} {E : Str → Sto → Prop} (m : Bool) (l : List D) (lo hi : Option Int) : wp (slcT m (.tup l) lo hi) st P E = P (.tup (cutG l lo hi)) st := rfl
@[simp] theorem q_slc_lst {st : Sto} {P : D → Sto → Prop} {E : Str → Sto → Prop} (m : Bool) (l : List D) (lo hi : Option Int) : wp (slcT m (.lst l) lo hi) st P E = wp (mkL m (cutG l lo hi)) st P E := rfl
@[simp] theorem q_rng (n : Nat) (h : n ≤ 16777216) : srcR1 (.int n) = some ⟨rngL 0 n, none⟩ := by
  show (if 0 ≤ (n : Int) ∧ (n : Int) ≤ 16777216 then some (⟨rngL 0 ((n : Int)).toNat, none⟩ : Src) else none) = _
  rw [if_pos (by omega)]; rfl
@[simp] theorem q_srcok (l : List D) (st : Sto) : Src.ok ⟨l, none⟩ st = True := rfl
@[simp] theorem q_isb {st : Sto} {P : D → Sto → Prop} {E : Str → Sto → Prop} (a b : Bool) : wp (opIs (.bl a) (.bl b)) st P E = P (.bl (a == b)) st := rfl
@[simp] theorem eqT_int {st : Sto} (i j : Int) : eqT st (.int i) (.int j) = some (decide (i = j)) := by
  simp [eqT, pyT, D.py, PyData.depth, PyData.eqv, BEq.beq]
@[simp] theorem eqT_str {st : Sto} (i j : Str) : eqT st (.str i) (.str j) = some (decide (i = j)) := by
  simp [eqT, pyT, D.py, PyData.depth, PyData.eqv, BEq.beq]
@[simp] theorem eqT_bl {st : Sto} (i j : Bool) : eqT st (.bl i) (.bl j) = some (decide (i = j)) := by
  simp [eqT, pyT, D.py, PyData.depth, PyData.eqv, BEq.beq]
@[simp] theorem in2i {st : Sto} (i a b : Int) : inT st (.int i) (.tup [.int a, .int b]) = some (decide (i = a ∨ i = b)) := by
  simp [inT, inL, D.py, D.pys, PyData.depth, PyData.depthAll, PyData.eqv, BEq.beq, eq_comm]
@[simp] theorem in2s {st : Sto} (i a b : Str) : inT st (.str i) (.tup [.str a, .str b]) = some (decide (i = a ∨ i = b)) := by
  simp [inT, inL, D.py, D.pys, PyData.depth, PyData.depthAll, PyData.eqv, BEq.beq, eq_comm]
@[simp] theorem at0 {α : Type} (a : α) (l : List α) : atI (a :: l) 0 = some a := by simp [atI, ixN]
@[simp] theorem at1 {α : Type} (a b : α) (l : List α) : atI (a :: b :: l) 1 = some b := by
  have : (1 : Int) < (l.length : Int) + 1 + 1 := by omega
  simp [atI, ixN, this]
@[simp] theorem at2 {α : Type} (a b c : α) (l : List α) : atI (a :: b :: c :: l) 2 = some c := by
  have : (2 : Int) < (l.length : Int) + 1 + 1 + 1 := by omega
  simp [atI, ixN, this]
theorem at_of {α : Type} {l : List α} {i : Int} (h0 : 0 ≤ i) (h : i < l.length) : ∃ x, x ∈ l ∧ atI l i = some x := by
  have h2 : i.toNat < l.length := by omega
  refine ⟨l[i.toNat], List.getElem_mem h2, ?_⟩
  simp [atI, ixN, h0, h, List.getElem?_eq_getElem h2]
@[simp] theorem u_len : Blt.g .len = gLen := rfl
@[simp] theorem u_all : Blt.g .all = gAll := rfl
@[simp] theorem u_any : Blt.g .any = gAny := rfl
@[simp] theorem u_tuple : Blt.g .tuple = gTuple := rfl
@[simp] theorem u_int : Blt.g .int = gInt := rfl
@[simp] theorem u_str : Blt.g .str = gStr := rfl
@[simp] theorem u_list (m : Bool) : Blt.g (.list m) = gListD m := rfl
@[simp] theorem gListD_tup (m : Bool) (l : List D) : gListD m [.tup l] = gList m [.tup l] := rfl
@[simp] theorem gListD_lst (m : Bool) (l : List D) : gListD m [.lst l] = gList m [.lst l] := rfl
theorem w_listD_dct {m : Bool} {st : Sto} {n : Nat} {kvs : List (Key × D)} {P : D → Sto → Prop} {E : Str → Sto → Prop} (h : st[n]? = some (.dct kvs)) : wp (gListD m [.ref n]) st P E = wp (mkL m (kvs.map fun kv => ofKey kv.1)) st P E := by
  unfold wp gListD
  simp only [h]
theorem w_listD_lst {m : Bool} {st : Sto} {n : Nat} {l : List D} {P : D → Sto → Prop} {E : Str → Sto → Prop} (h : st[n]? = some (.lst l)) : wp (gListD m [.ref n]) st P E = wp (mkL m l) st P E := by
  unfold wp gListD
  simp only [h]
  simp [gList, lstOf, h]
@[simp] theorem u_sorted (m : Bool) : Blt.g (.sorted m) = gSorted m := rfl
@[simp] theorem u_get : Bm.g .get = gGet := rfl
@[simp] theorem u_getT : Bm.T .get = .dict := rfl
@[simp] theorem u_dpop : Bm.g .dpop = gDpop := rfl
@[simp] theorem u_dpopT : Bm.T .dpop = .dict := rfl
@[simp] theorem u_find : Bm.g .find = gFind := rfl
@[simp] theorem u_findT : Bm.T .find = .str := rfl
@[simp] theorem u_rfind : Bm.g .rfind = gRfind := rfl
@[simp] theorem u_index : Bm.g .index = gIndex := rfl
@[simp] theorem u_indexT : Bm.T .index = .list := rfl
@[simp] theorem u_rfindT : Bm.T .rfind = .str := rfl
@[simp] theorem u_join : Bm.g .join = gJoin := rfl
@[simp] theorem u_joinT : Bm.T .join = .str := rfl
@[simp] theorem u_split (m : Bool) : Bm.g (.split m) = gSplit m := rfl
@[simp] theorem u_splitT (m : Bool) : Bm.T (.split m) = .str := rfl
@[simp] theorem u_min2 : Blt2.g .min = gMin2 := rfl
@[simp] theorem u_max2 : Blt2.g .max = gMax2 := rfl
@[simp] theorem q_min2 {st : Sto} {P : D → Sto → Prop} {E : Str → Sto → Prop} (i j : Int) : wp (gMin2 [.int i, .int j]) st P E = P (.int (if j < i then j else i)) st := rfl
@[simp] theorem q_max2 {st : Sto} {P : D → Sto → Prop} {E : Str → Sto → Prop} (i j : Int) : wp (gMax2 [.int i, .int j]) st P E = P (.int (if j > i then j else i)) st := rfl
@[simp] theorem q_find {st : Sto} {P : D → Sto → Prop} {E : Str → Sto → Prop} (i j : Str) : wp (gFind (.str i) [.str j]) st P E = P (.int (Txt.find i j)) st := rfl
@[simp] theorem q_rfind {st : Sto} {P : D → Sto → Prop} {E : Str → Sto → Prop} (i j : Str) : wp (gRfind (.str i) [.str j]) st P E = P (.int (Txt.rfind i j)) st := rfl
@[simp] theorem bt_str {st : Sto} (i : Str) : btOk st (.str i) .str = true := rfl
theorem bt_dct {st : Sto} {n : Nat} {kvs : List (Key × D)} (h : st[n]? = some (.dct kvs)) : btOk st (.ref n) .dict = true := by simp [btOk, h]
theorem w_get {st : Sto} {n : Nat} {kvs : List (Key × D)} {k x : D} {P : D → Sto → Prop} {E : Str → Sto → Prop} (h : st[n]? = some (.dct kvs)) : wp (gGet (.ref n) [k, x]) st P E = lk (keyOf k) (fun key => P ((valG kvs key).getD x) st) := by
  show wp (M.look _) st P E = _
  rw [wp_look]
  simp only [h]
  cases keyOf k <;> rfl
theorem w_dpop {st : Sto} {n : Nat} {kvs : List (Key × D)} {k : D} {P : D → Sto → Prop} {E : Str → Sto → Prop} (h : st[n]? = some (.dct kvs)) : wp (gDpop (.ref n) [k]) st P E = lk (keyOf k) (fun key => lk (valG kvs key) fun v => P v (st.set n (.dct (dropG kvs key)))) := by
  unfold wp gDpop
  simp only [h]
  cases keyOf k with
  | none => rfl
  | some key =>
    dsimp only
    cases hv : valG kvs key with
    | none => simp only [hv, lk_some, lk_none]
    | some v => simp only [hv, lk_some]
theorem w_dictD {st : Sto} {n : Nat} {kvs : List (Key × D)} {P : D → Sto → Prop} {E : Str → Sto → Prop} (h : st[n]? = some (.dct kvs)) : wp (gDictD [.ref n]) st P E = P (.ref st.length) (st ++ [.dct kvs]) := by
  unfold wp gDictD
  simp only [h]
@[simp] theorem u_append : Bm.g .append = gAppend := rfl
@[simp] theorem u_appendT : Bm.T .append = .list := rfl
@[simp] theorem u_extend : Bm.g .extend = gExtend := rfl
@[simp] theorem u_extendT : Bm.T .extend = .list := rfl
@[simp] theorem u_pop : Bm.g .pop = gPop := rfl
@[simp] theorem u_popT : Bm.T .pop = .list := rfl
@[simp] theorem u_add (m : Bool) : Bop.g (.add m) = opAdd m := rfl
@[simp] theorem u_sub : Bop.g .sub = opI fSub := rfl
@[simp] theorem u_mod : Bop.g .mod = opI fMod := rfl
@[simp] theorem u_div : Bop.g .div = opI fDiv := rfl
@[simp] theorem u_mul (m : Bool) : Bop.g (.mul m) = opMul m := rfl
@[simp] theorem u_Eq : cmpG .Eq = opEq := rfl
@[simp] theorem u_NotEq : cmpG .NotEq = opNe := rfl
@[simp] theorem u_Lt : cmpG .Lt = opLt := rfl
@[simp] theorem u_LtE : cmpG .LtE = opLe := rfl
@[simp] theorem u_Gt : cmpG .Gt = opGt := rfl
@[simp] theorem u_GtE : cmpG .GtE = opGe := rfl
@[simp] theorem u_Is : cmpG .Is = opIs := rfl
@[simp] theorem u_IsNot : cmpG .IsNot = opIsNot := rfl
@[simp] theorem u_In : cmpG .In = opIn := rfl
@[simp] theorem u_NotIn : cmpG .NotIn = opNotIn := rfl
@[simp] theorem u_tystr : Ty.nm .str = "str" := rfl
@[simp] theorem u_tyint : Ty.nm .int = "int" := rfl
@[simp] theorem u_tybool : Ty.nm .bool = "bool" := rfl
@[simp] theorem u_tytuple : Ty.nm .tuple = "tuple" := rfl
@[simp] theorem u_tylist : Ty.nm .list = "list" := rfl
@[simp] theorem u_sz : sizeLine = 16777216 := by decide
@[simp] theorem u_sum : Blt.g .sum = gSum := rfl
@[simp] theorem u_dict : Blt.g .dict = gDictD := rfl
@[simp] theorem gDictD_lst (l : List D) : gDictD [.lst l] = gDict [.lst l] := rfl
@[simp] theorem q_dict {st : Sto} {P : D → Sto → Prop} {E : Str → Sto → Prop} (l : List D) : wp (gDict [.lst l]) st P E = lk (pairsOf l) (fun kvs => P (.ref st.length) (st ++ [.dct (mergeG [] kvs)])) := by
  unfold wp gDict
  dsimp only
  cases pairsOf l <;> rfl
@[simp] theorem q_sum {st : Sto} {P : D → Sto → Prop} {E : Str → Sto → Prop} (l : List D) : wp (gSum [.lst l]) st P E = lk (intsOf l) (fun ns => P (.int ns.sum) st) := by
  show wp (M.look _) st P E = _
  rw [wp_look]; show lk (Option.map _ (intsOf l)) _ = _; cases intsOf l <;> rfl
@[simp] theorem q_mul_tup {st : Sto} {P : D → Sto → Prop} {E : Str → Sto → Prop} (m b : Bool) (l : List D) : wp (opMul m (.tup l) (.int (if b then 1 else 0))) st P E = P (.tup (if b then l else [])) st := by
  unfold wp opMul
  cases b
  · by_cases h : l = []
    · simp [h]
    · simp [h]
  · simp
@[simp] theorem q_mul_str {st : Sto} {P : D → Sto → Prop} {E : Str → Sto → Prop} (m b : Bool) (x : Str) : wp (opMul m (.str x) (.int (if b then 1 else 0))) st P E = P (.str (if b then x else Str.empty)) st := by
  unfold wp opMul
  cases b <;> simp
@[simp] theorem q_rev_str {st : Sto} {P : D → Sto → Prop} {E : Str → Sto → Prop} (m : Bool) (z : Str) : wp (gRev m (.str z)) st P E = P (.str (revS z)) st := rfl
@[simp] theorem q_str_str {st : Sto} {P : D → Sto → Prop} {E : Str → Sto → Prop} (z : Str) : wp (gStr [.str z]) st P E = P (.str z) st := rfl
theorem q_int_str {st : Sto} {P : D → Sto → Prop} {E : Str → Sto → Prop} {z : Str} {n : Int} (h : PySem.intText? z = some n) (hl : z.length ≤ 640) : wp (gInt [.str z]) st P E = P (.int n) st := by
  unfold wp gInt
  simp only [h, if_pos hl]
@[simp] theorem q_int_bl {st : Sto} {P : D → Sto → Prop} {E : Str → Sto → Prop} (b : Bool) : wp (gInt [.bl b]) st P E = P (.int (if b then 1 else 0)) st := rfl
@[simp] theorem q_int_int {st : Sto} {P : D → Sto → Prop} {E : Str → Sto → Prop} (i : Int) : wp (gInt [.int i]) st P E = P (.int i) st := rfl
def isD0 : Option MO → Option Unit
  | some (.dct []) => some ()
  | _ => none
@[simp] theorem isD0_eq : isD0 (some (.dct [])) = some () := rfl
section
variable {cf : Str → List D → M D} {gc : Str → Option D} {ρ : Lo} {st : Sto} {P : D → Sto → Prop} {PB : Bool → Sto → Prop} {E : Str → Sto → Prop} {Q : Out → Sto → Prop}
@[simp ↓] theorem we_dsp (ks : List Key) (es : Es) : wp (ev cf gc (.dsp ks es) ρ) st P E = wp (evs cf gc es ρ) (st ++ [.dct []]) (fun ds st2 => lk (isD0 st2[st.length]?) fun _ => if ds.length = ks.length then P (.ref st.length) (st2.set st.length (.dct (mergeG [] (ks.zip ds)))) else False) E := by
  rw [ev]
  unfold wp mDsp
  generalize evs cf gc es ρ (st ++ [.dct []]) = r
  rcases r with _ | ⟨⟨ds⟩ | ⟨c⟩, st2⟩
  · rfl
  · dsimp only
    generalize st2[st.length]? = q
    rcases q with _ | ⟨_ | ⟨_ | _⟩ | _⟩ <;> try rfl
    by_cases h : ds.length = ks.length
    · simp [h]
    · simp [h]
  · rfl
@[simp ↓] theorem we_dnew : wp (ev cf gc .dnew ρ) st P E = P (.ref st.length) (st ++ [.dct []]) := by rw [ev]; rfl
@[simp ↓] theorem ws_dput (a b c : TB.E) : wpS (exS cf gc (.dput a b c)) ρ st Q = wp (ev cf gc c ρ) st (fun v st1 => wp (ev cf gc a ρ) st1 (fun o st2 => wp (ev cf gc b ρ) st2 (fun k st3 => wp (putT o k v) st3 (fun _ st4 => Q (.nx ρ) st4) (fun c st1 => Q (.ex c ρ) st1)) (fun c st1 => Q (.ex c ρ) st1)) (fun c st1 => Q (.ex c ρ) st1)) (fun c st1 => Q (.ex c ρ) st1) := by
  rw [exS]; refine (w_lift _ _).trans ?_; rw [wp_bind]; congr 1; funext d st1; rw [wp_bind]; congr 1; funext d st1; rw [wp_bind]
@[simp ↓] theorem ws_par3 (i j l : Nat) (a b c : TB.E) : wpS (exS cf gc (.par3 i j l a b c)) ρ st Q = wp (ev cf gc a ρ) st (fun x st1 => wp (ev cf gc b ρ) st1 (fun y st2 => wp (ev cf gc c ρ) st2 (fun z st3 => Q (.nx (((ρ.set i (some x)).set j (some y)).set l (some z))) st3) (fun c st1 => Q (.ex c ρ) st1)) (fun c st1 => Q (.ex c ρ) st1)) (fun c st1 => Q (.ex c ρ) st1) := by
  rw [exS]; refine (w_lift _ _).trans ?_; rw [wp_bind]; congr 1; funext d st1; rw [wp_bind]; congr 1; funext d st1; rw [wp_bind]; congr 1
end
section
variable {cf : Str → List D → M D} {gc : Str → Option D} {ρ : Lo} {st : Sto} {P : D → Sto → Prop} {PB : Bool → Sto → Prop} {E : Str → Sto → Prop} {Q : Out → Sto → Prop}
@[simp ↓] theorem we_fld (c f : Str) (o : TB.E) : wp (ev cf gc (.fld c f o) ρ) st P E = wp (ev cf gc o ρ) st (fun d st1 => lk (fldT c f st1 d) fun z => P z st1) E := by
  rw [ev]
  show wp (M.bind _ _) st P E = _
  rw [wp_bind]; congr 1; funext d st1; rw [wp_look]
@[simp ↓] theorem wt_fld (c f : Str) (o : TB.E) : wp (tst cf gc (.fld c f o) ρ) st PB E = wp (ev cf gc (.fld c f o) ρ) st (fun d st1 => lk (truth st1 d) fun k => PB k st1) E := by rw [tst, ev]; exact w_tru _
@[simp ↓] theorem we_meth (c m q : Str) (n : Nat) (o : TB.E) (es : Es) : wp (ev cf gc (.meth c m q n o es) ρ) st P E = wp (ev cf gc o ρ) st (fun d st1 => if insOk c m st1 d = true then wp (evs cf gc es ρ) st1 (fun ds st2 => if (d :: ds).length = n then wp (cf q (d :: ds)) st2 P E else False) E else False) E := by
  rw [ev]
  show wp (M.bind _ _) st P E = _
  rw [wp_bind]; congr 1; funext d st1; rw [wp_bind, wp_look]; cases insOk c m st1 d
  · rfl
  · show wp (M.bind _ _) st1 P E = _
    rw [wp_bind, if_pos rfl]; congr 1; funext ds st2; rw [wp_ite]; rfl
@[simp ↓] theorem wt_meth (c m q : Str) (n : Nat) (o : TB.E) (es : Es) : wp (tst cf gc (.meth c m q n o es) ρ) st PB E = wp (ev cf gc (.meth c m q n o es) ρ) st (fun d st1 => lk (truth st1 d) fun k => PB k st1) E := by rw [tst, ev]; exact w_tru _
theorem w_mk {c : Str} {n : Nat} {g : List D → M D} {ds : List D} : wp (fun st => if ds.length + 1 = n then (match g (.ref st.length :: ds) (st ++ [.ins c []]) with
    | some (.ok .non, st1) => some (.ok (.ref st.length), st1)
    | _ => none) else none) st P E = (ds.length + 1 = n ∧ wp (g (.ref st.length :: ds)) (st ++ [.ins c []]) (fun d st2 => d = .non ∧ P (.ref st.length) st2) noX) := by
  unfold wp
  by_cases h : ds.length + 1 = n
  · simp only [h, if_true, true_and]
    generalize g (.ref st.length :: ds) (st ++ [.ins c []]) = r
    rcases r with _ | ⟨⟨t⟩ | ⟨c'⟩, st1⟩
    · rfl
    · cases t <;> simp
    · rfl
  · simp [h]
@[simp ↓] theorem we_mk (c q : Str) (n : Nat) (es : Es) : wp (ev cf gc (.mk c q n es) ρ) st P E = wp (evs cf gc es ρ) st (fun ds st1 => ds.length + 1 = n ∧ wp (cf q (.ref st1.length :: ds)) (st1 ++ [.ins c []]) (fun d st2 => d = .non ∧ P (.ref st1.length) st2) noX) E := by
  rw [ev]
  show wp (M.bind _ _) st P E = _
  rw [wp_bind]; congr 1; funext ds st1; exact w_mk
@[simp ↓] theorem we_blt2 (f : Blt2) (a b : TB.E) : wp (ev cf gc (.blt2 f a b) ρ) st P E = wp (ev cf gc a ρ) st (fun x st1 => wp (ev cf gc b ρ) st1 (fun y st2 => wp (f.g [x, y]) st2 P E) E) E := by
  rw [ev]
  show wp (M.bind (M.bind _ _) _) st P E = _
  rw [wp_bind, wp_bind]; congr 1; funext d st1
  show wp (M.bind (M.bind _ _) _) st1 _ E = _
  rw [wp_bind, wp_bind]; congr 1
@[simp ↓] theorem wi_enum {PI : Src → Sto → Prop} (e : TB.E) : wp (evi cf gc (.enum e) ρ) st PI E = wp (ev cf gc e ρ) st (fun d st1 => lk (srcE st1 d) fun s => PI s st1) E := by
  rw [evi]
  show wp (M.bind _ _) st PI E = _
  rw [wp_bind]; congr 1; funext d st1; rw [wp_look]
@[simp ↓] theorem ws_fput (c f : Str) (a b : TB.E) : wpS (exS cf gc (.fput c f a b)) ρ st Q = wp (ev cf gc b ρ) st (fun v st1 => wp (ev cf gc a ρ) st1 (fun o st2 => wp (fputT c f o v) st2 (fun _ st4 => Q (.nx ρ) st4) (fun c st1 => Q (.ex c ρ) st1)) (fun c st1 => Q (.ex c ρ) st1)) (fun c st1 => Q (.ex c ρ) st1) := by
  rw [exS]; refine (w_lift _ _).trans ?_; rw [wp_bind]; congr 1; funext d st1; rw [wp_bind]
theorem w_fput {c f : Str} {n : Nat} {fs : List (Str × D)} {y : D} {PU : Unit → Sto → Prop} (h : st[n]? = some (.ins c fs)) (hl : fs.length < 1000) : wp (fputT c f (.ref n) y) st PU E = PU () (st.set n (.ins c (fputG f y fs))) := by
  unfold wp fputT
  simp only [h]
  simp [hl]
theorem fld_ins {c f : Str} {n : Nat} {fs : List (Str × D)} (h : st[n]? = some (.ins c fs)) : fldT c f st (.ref n) = fs.lookup f := by
  simp [fldT, h]
theorem insOk_ins {c m : Str} {n : Nat} {fs : List (Str × D)} (h : st[n]? = some (.ins c fs)) (hl : fs.lookup m = none) : insOk c m st (.ref n) = true := by
  simp [insOk, h, hl]
end
@[simp] theorem set_end (st : Sto) (a b : MO) : (st ++ [a]).set st.length b = st ++ [b] := by simp
@[simp] theorem ix_end (st : Sto) (kvs : List (Key × D)) (e : D) : idxT (st ++ [.dct kvs]) (.ref st.length) e = (keyOf e).bind fun k => valG kvs k := by
  simp [idxT]
@[simp] theorem keyOf_str (x : Str) : keyOf (.str x) = some (.inr x) := rfl
@[simp] theorem keyOf_int (x : Int) : keyOf (.int x) = some (.inl x) := rfl
theorem ix_dct {st : Sto} {n : Nat} {kvs : List (Key × D)} (h : st[n]? = some (.dct kvs)) (e : D) : idxT st (.ref n) e = (keyOf e).bind fun k => valG kvs k := by
  simp [idxT, h]
/-! ### what is left of the store behind a def -/
def Wf (st : Sto) : Prop := ∀ o ∈ st, o.rlt st.length = true
theorem fnQ_drop {st st1 : Sto} {P : D → Sto → Prop} {E : Str → Sto → Prop} {d : D} (hn : ∀ i, d ≠ .ref i) (hr : d.rlt st.length = true) (h : st1.take st.length = st ∨ ∀ o ∈ st1.take st.length, o.rlt st.length = true) : fnQ st P E (.rt d) st1 = P d (st1.take st.length) := by
  show wp _ _ _ _ = _
  have e : frz st.length st1 d = d := by
    unfold frz
    split
    · exact absurd rfl (hn _)
    · rfl
  unfold wp dropM
  dsimp only
  rw [if_pos ⟨by rw [e]; exact hr, h⟩, e]
theorem fnQ_list {st st1 : Sto} {P : D → Sto → Prop} {E : Str → Sto → Prop} {i : Nat} {l : List D} (hi : st.length ≤ i) (hl : st1[i]? = some (.lst l)) (hr : D.rlts st.length l = true) (h : st1.take st.length = st ∨ ∀ o ∈ st1.take st.length, o.rlt st.length = true) : fnQ st P E (.rt (.ref i)) st1 = P (.lst l) (st1.take st.length) := by
  show wp _ _ _ _ = _
  have e : frz st.length st1 (.ref i) = .lst l := by
    simp [frz, hl, Nat.not_lt.mpr hi]
  unfold wp dropM
  dsimp only
  rw [if_pos ⟨by rw [e]; exact hr, h⟩, e]
theorem fnQ_any {st st1 : Sto} {P : D → Sto → Prop} {E : Str → Sto → Prop} {d : D} (hd : ∀ i, d ≠ .ref i) (h1 : P d st1) (h2 : P d (st1.take st.length)) : fnQ st P E (.rt d) st1 := by
  show wp _ _ _ _
  have e : frz st.length st1 d = d := by
    unfold frz
    split
    · exact absurd rfl (hd _)
    · rfl
  unfold wp dropM
  dsimp only
  rw [e]
  by_cases h : DropOk st st1 d
  · rw [if_pos h]; exact h2
  · rw [if_neg h]; exact h1
end TB
set_option Elab.async false
set_option linter.all false
set_option maxRecDepth 100000
set_option maxHeartbeats 4000000
/-! TB15: drawing and picking -/
namespace TB
open PySem PySem.Spec L2
def k_draw : Def := ⟨"_law_draw", ["script", "town", "many"], ["script", "town", "many", "k", "cell", "number", "more"],
  (.cons (.expr (.bm .append (.var 1) (.cons (.int 0) .nil)))
  (.cons (.asg (.one 3) (.blt .len (.var 1)))
  (.cons (.asg (.one 4) (.int 0))
  (.cons (.ife (.var 0)
   (.cons (.asg (.one 4) (.idx (.var 0) (.bin .mod (.var 3) (.blt .len (.var 0)))))
   .nil)
   .nil)
  (.cons (.asg (.one 5) (.bin .mod (.bin (.add false) (.var 4) (.bin (.mul false) (.int 104729) (.var 3))) (.int 4294967291)))
  (.cons (.asg (.one 5) (.bin .mod (.bin (.mul false) (.bin .mod (.bin (.mul false) (.var 5) (.var 5)) (.int 4294967279)) (.int 48271)) (.int 4294967291)))
  (.cons (.asg (.one 6) (.bin .mod (.bin (.mul false) (.bin .mod (.bin (.mul false) (.var 5) (.var 5)) (.int 4294967279)) (.int 69621)) (.int 4294967291)))
  (.cons (.ret (.bin .mod (.bin (.add false) (.bin (.mul false) (.bin .div (.var 5) (.int 64)) (.int 67108864)) (.bin .div (.var 6) (.int 64))) (.var 2)))
  .nil))))))))⟩
def k_pick : Def := ⟨"_law_pick", ["script", "town", "some"], ["script", "town", "some"],
  (.cons (.ret (.idx (.var 2) (.call "_law_draw" 3 (.cons (.var 0) (.cons (.var 1) (.cons (.blt .len (.var 2)) .nil))))))
  .nil)⟩
section
variable {T : Tab} {gc : Str → Option D} {n : Nat} {st : Sto} {P : D → Sto → Prop} {E : Str → Sto → Prop}
theorem lo_ref {i : Nat} {l : List D} (h : st[i]? = some (.lst l)) : lstOf st (.ref i) = some l := by unfold lstOf; simp [h]
theorem q_len_ref {i : Nat} {l : List D} (h : st[i]? = some (.lst l)) : wp (gLen [.ref i]) st P E = P (.int l.length) st := by
  show wp (M.look _) st P E = _
  rw [wp_look]; simp [lenT, h]
theorem q_app {i : Nat} {l : List D} {x : D} (h : st[i]? = some (.lst l)) (hl : l.length < 16777216) : wp (gAppend (.ref i) [x]) st P E = P .non (st.set i (.lst (l ++ [x]))) := by
  unfold wp gAppend
  simp [h, hl]
theorem bt_ref {i : Nat} {l : List D} (h : st[i]? = some (.lst l)) : btOk st (.ref i) .list = true := by
  show (lstOf st (.ref i)).isSome = true
  rw [lo_ref h]; rfl
abbrev zeros (k : Nat) : List D := List.replicate k (.int 0)
def k_tail : Ss :=
  (.cons (.asg (.one 5) (.bin .mod (.bin (.add false) (.var 4) (.bin (.mul false) (.int 104729) (.var 3))) (.int 4294967291)))
  (.cons (.asg (.one 5) (.bin .mod (.bin (.mul false) (.bin .mod (.bin (.mul false) (.var 5) (.var 5)) (.int 4294967279)) (.int 48271)) (.int 4294967291)))
  (.cons (.asg (.one 6) (.bin .mod (.bin (.mul false) (.bin .mod (.bin (.mul false) (.var 5) (.var 5)) (.int 4294967279)) (.int 69621)) (.int 4294967291)))
  (.cons (.ret (.bin .mod (.bin (.add false) (.bin (.mul false) (.bin .div (.var 5) (.int 64)) (.int 67108864)) (.bin .div (.var 6) (.int 64))) (.var 2)))
  .nil))))
theorem sm (a : Int) (h : 0 ≤ a) (h2 : a < 4294967296) : -(2 ^ 64) < a ∧ a < 2 ^ 64 := by omega
theorem q_addi (m : Bool) (i j : Int) : wp (opAdd m (.int i) (.int j)) st P E = P (.int (i + j)) st := rfl
theorem q_muli {m : Bool} {i j : Int} (h : (-(2 ^ 64) < i ∧ i < 2 ^ 64) ∨ (-(2 ^ 64) < j ∧ j < 2 ^ 64)) : wp (opMul m (.int i) (.int j)) st P E = P (.int (i * j)) st := by
  rw [q_mul_int, eq_true h, true_and]
theorem q_modi {i j : Int} (h : 0 < j) : wp (opI fMod (.int i) (.int j)) st P E = P (.int (i % j)) st := by
  rw [q_mod_int, eq_true h, true_and]
theorem q_divi {i j : Int} (h : 0 < j ∧ j < 1073741824) : wp (opI fDiv (.int i) (.int j)) st P E = P (.int (i / j)) st := by
  rw [q_div_int, eq_true h, true_and]
theorem k_tail_at {ns : List Int} {i : Nat} {m k c : Int} (hm : 0 < m) {Q : Out → Sto → Prop} (h : ∀ j : Int, 0 ≤ j → j < m → Q (.rt (.int j)) st) :
    wpS (exSs (cfN T gc n) gc k_tail) [some (.scr ns), some (.ref i), some (.int m), some (.int k), some (.int c), none, none] st Q := by
  unfold k_tail
  have s1 : (-(2 ^ 64) < (104729 : Int) ∧ (104729 : Int) < 2 ^ 64) ∨ (-(2 ^ 64) < k ∧ k < 2 ^ 64) := .inl (by omega)
  rw [ws_cons, ws_asg, we_bin, we_bin, we_var]
  simp only [List.getElem?_cons_succ, List.getElem?_cons_zero, Option.bind_some, id, lk_some, we_bin, we_int, we_var, Bop.g, q_muli s1, q_addi, q_modi (show (0 : Int) < 4294967291 by omega), q_bt_one, List.set_cons_succ, List.set_cons_zero, seqQ_nx]
  generalize hx : (c + 104729 * k) % 4294967291 = x
  have x1 : 0 ≤ x := by rw [← hx]; exact Int.emod_nonneg _ (by omega)
  have x2 : x < 4294967291 := by rw [← hx]; exact Int.emod_lt_of_pos _ (by omega)
  have s2 : (-(2 ^ 64) < x ∧ x < 2 ^ 64) ∨ (-(2 ^ 64) < x ∧ x < 2 ^ 64) := .inl (by omega)
  have s3 : ∀ y : Int, (-(2 ^ 64) < y ∧ y < 2 ^ 64) ∨ (-(2 ^ 64) < (48271 : Int) ∧ (48271 : Int) < 2 ^ 64) := fun y => .inr (by omega)
  rw [ws_cons, ws_asg, we_bin, we_bin, we_bin]
  simp only [List.getElem?_cons_succ, List.getElem?_cons_zero, Option.bind_some, id, lk_some, we_bin, we_int, we_var, Bop.g, q_muli s2, q_muli (s3 _), q_addi, q_modi (show (0 : Int) < 4294967291 by omega), q_modi (show (0 : Int) < 4294967279 by omega), q_bt_one, List.set_cons_succ, List.set_cons_zero, seqQ_nx]
  generalize hy : x * x % 4294967279 * 48271 % 4294967291 = y
  have y1 : 0 ≤ y := by rw [← hy]; exact Int.emod_nonneg _ (by omega)
  have y2 : y < 4294967291 := by rw [← hy]; exact Int.emod_lt_of_pos _ (by omega)
  have s2 : (-(2 ^ 64) < y ∧ y < 2 ^ 64) ∨ (-(2 ^ 64) < y ∧ y < 2 ^ 64) := .inl (by omega)
  have s3 : ∀ y : Int, (-(2 ^ 64) < y ∧ y < 2 ^ 64) ∨ (-(2 ^ 64) < (69621 : Int) ∧ (69621 : Int) < 2 ^ 64) := fun y => .inr (by omega)
  rw [ws_cons, ws_asg, we_bin, we_bin, we_bin]
  simp only [List.getElem?_cons_succ, List.getElem?_cons_zero, Option.bind_some, id, lk_some, we_bin, we_int, we_var, Bop.g, q_muli s2, q_muli (s3 _), q_addi, q_modi (show (0 : Int) < 4294967291 by omega), q_modi (show (0 : Int) < 4294967279 by omega), q_bt_one, List.set_cons_succ, List.set_cons_zero, seqQ_nx]
  generalize hz : y * y % 4294967279 * 69621 % 4294967291 = z
  have s4 : ∀ y : Int, (-(2 ^ 64) < y ∧ y < 2 ^ 64) ∨ (-(2 ^ 64) < (67108864 : Int) ∧ (67108864 : Int) < 2 ^ 64) := fun y => .inr (by omega)
  rw [ws_cons, ws_ret, we_bin, we_bin, we_bin]
  simp only [List.getElem?_cons_succ, List.getElem?_cons_zero, Option.bind_some, id, lk_some, we_bin, we_int, we_var, Bop.g, q_divi (show (0 : Int) < 64 ∧ (64 : Int) < 1073741824 by omega), q_muli (s4 _), q_addi, q_modi hm, seqQ_rt]
  exact h _ (Int.emod_nonneg _ (by omega)) (Int.emod_lt_of_pos _ hm)
theorem draw_at (hT : T.get "_law_draw" = some k_draw) (hn : 0 < n) {ns : List Int} {i k : Nat} {m : Int} (hm : 0 < m) (hi : st[i]? = some (.lst (zeros k))) (hk : k < 1000000) :
    wp (cfN T gc n "_law_draw" [.scr ns, .ref i, .int m]) st (fun d st1 => ∃ j : Int, 0 ≤ j ∧ j < m ∧ d = .int j ∧ st1 = st.set i (.lst (zeros (k + 1)))) noX := by
  obtain ⟨n, rfl⟩ : ∃ k, n = k + 1 := ⟨n - 1, by omega⟩
  have hl : i < st.length := by
    rcases Nat.lt_or_ge i st.length with h | h
    · exact h
    · rw [List.getElem?_eq_none h] at hi; cases hi
  have h2 : (st.set i (.lst (zeros (k + 1))))[i]? = some (.lst (zeros (k + 1))) := List.getElem?_set_self hl
  have e : zeros k ++ [.int 0] = zeros (k + 1) := by unfold zeros; rw [List.replicate_succ']
  have hz : (zeros k).length < 16777216 := by rw [List.length_replicate]; omega
  rw [w_fn hT]
  show wpS (exSs _ _ (.cons _ (.cons _ (.cons _ (.cons _ k_tail))))) _ _ _
  have fin : ∀ (j : Int), 0 ≤ j → j < m → fnQ st (fun d st1 => ∃ j : Int, 0 ≤ j ∧ j < m ∧ d = .int j ∧ st1 = st.set i (.lst (zeros (k + 1)))) noX (Out.rt (.int j)) (st.set i (.lst (zeros (k + 1)))) := fun j h0 h1 => by
    rw [fnQ_rt (by simp) (fun i e => by cases e)]
    exact ⟨j, h0, h1, rfl, rfl⟩
  generalize hf : fnQ st (fun d st1 => ∃ j : Int, 0 ≤ j ∧ j < m ∧ d = .int j ∧ st1 = st.set i (.lst (zeros (k + 1)))) noX = F at fin ⊢
  simp only [k_draw, List.map, List.length, List.replicate, List.cons_append, List.nil_append]
  rw [ws_cons, ws_expr, we_bm, we_var]
  simp only [List.getElem?_cons_succ, List.getElem?_cons_zero, Option.bind_some, id, lk_some, Bm.T, bt_ref hi, wa_cons, wa_nil, we_int, Bm.g, q_app hi hz, e, if_true, seqQ_nx]
  rw [ws_cons, ws_asg, we_blt, we_var]
  simp only [List.getElem?_cons_succ, List.getElem?_cons_zero, Option.bind_some, id, lk_some, Blt.g, q_len_ref h2, q_bt_one, List.set_cons_succ, List.set_cons_zero, seqQ_nx]
  rw [ws_cons, ws_asg, we_int]
  simp only [lk_some, q_bt_one, List.set_cons_succ, List.set_cons_zero, seqQ_nx]
  rw [ws_cons, ws_if, wt_var, we_var]
  simp only [List.getElem?_cons_succ, List.getElem?_cons_zero, Option.bind_some, id, lk_some, q_tr_scr]
  have key : ∀ c : Int, wpS (exSs (cfN T gc n) gc k_tail) [some (D.scr ns), some (D.ref i), some (D.int m), some (D.int ↑(zeros (k + 1)).length), some (D.int c), none, none] (List.set st i (MO.lst (zeros (k + 1)))) F := fun c => k_tail_at hm fin
  cases ns with
  | nil =>
    simp only [List.isEmpty_nil, Bool.not_true, Bool.false_eq_true, if_false, ws_nil, seqQ_nx]
    exact key _
  | cons a ns =>
    have hp : (0 : Int) < ((a :: ns).length : Nat) := by rw [List.length_cons]; omega
    obtain ⟨x, hx, hx2⟩ := at_of (l := a :: ns) (i := ((zeros (k + 1)).length : Int) % ((a :: ns).length : Nat)) (Int.emod_nonneg _ (by omega)) (Int.emod_lt_of_pos _ hp)
    simp only [List.isEmpty_cons, Bool.not_false, if_true]
    rw [ws_cons, ws_asg, we_idx, we_var]
    simp only [List.getElem?_cons_succ, List.getElem?_cons_zero, Option.bind_some, id, lk_some, we_bin, we_blt, we_var, Blt.g, q_len_scr, Bop.g, q_modi hp, q_ix_scr, hx2, Option.map_some, q_bt_one, List.set_cons_succ, List.set_cons_zero, seqQ_nx, ws_nil]
    exact key x
theorem pick_at (hT : T.get "_law_draw" = some k_draw) (hP : T.get "_law_pick" = some k_pick) (hn : 1 < n) {ns : List Int} {i k : Nat} {l : List D} (hm : 0 < l.length) (hi : st[i]? = some (.lst (zeros k))) (hk : k < 1000000) (hr : ∀ x ∈ l, ∀ i, x ≠ .ref i) :
    wp (cfN T gc n "_law_pick" [.scr ns, .ref i, .lst l]) st (fun d st1 => d ∈ l ∧ st1 = st.set i (.lst (zeros (k + 1)))) noX := by
  obtain ⟨n, rfl⟩ : ∃ k, n = k + 1 := ⟨n - 1, by omega⟩
  rw [w_fn hP]
  simp only [k_pick, List.map, List.length, List.replicate, List.cons_append, List.nil_append]
  rw [ws_cons, ws_ret, we_idx, we_var]
  simp only [List.getElem?_cons_succ, List.getElem?_cons_zero, Option.bind_some, id, lk_some, we_call, wa_cons, wa_nil, we_var, we_blt, Blt.g, q_len_lst, List.length, if_true]
  refine wp_go (draw_at hT (by omega) (by omega) hi hk) ?_
  rintro _ _ ⟨j, h0, h1, rfl, rfl⟩
  obtain ⟨x, hx, hx2⟩ := at_of h0 h1
  simp only [q_ix_lst, hx2, lk_some, seqQ_rt]
  rw [fnQ_rt (by simp) (fun i e => absurd e (hr x hx i))]
  exact ⟨hx, rfl⟩
end
end TB
set_option Elab.async false
set_option linter.all false
set_option maxRecDepth 100000
set_option maxHeartbeats 4000000
/-! TB16: wishes -/
namespace TB
open PySem PySem.Spec L2
def k_wish : Def := ⟨"_law_wish", ["script", "town", "left"], ["script", "town", "left", "kind", "one"],
  (.cons (.asg (.one 3) (.call "_law_draw" 3 (.cons (.var 0) (.cons (.var 1) (.cons (.int 6) .nil)))))
  (.cons (.ife (.bor (.cons (.cmp .Lt (.var 2) (.int 2)) (.cons (.cmp .Lt (.var 3) (.int 2)) .nil)))
   (.cons (.ife (.cmp .Eq (.call "_law_draw" 3 (.cons (.var 0) (.cons (.var 1) (.cons (.int 2) .nil)))) (.int 0))
    (.cons (.ret (.tup (.cons (.str "mark") (.cons (.call "_law_pick" 3 (.cons (.var 0) (.cons (.var 1) (.cons (.lst false (.cons (.str "x") (.cons (.str "y") (.cons (.str "slow") (.cons (.str "no") .nil))))) .nil)))) .nil))))
    .nil)
    .nil)
   (.cons (.ret (.tup (.cons (.str "name") (.cons (.call "_law_pick" 3 (.cons (.var 0) (.cons (.var 1) (.cons (.lst false (.cons (.str "a") (.cons (.str "b") (.cons (.str "de") (.cons (.str "z") (.cons (.str "e") (.cons (.str "q") .nil))))))) .nil)))) .nil))))
   .nil))
   .nil)
  (.cons (.ife (.cmp .Eq (.var 3) (.int 2))
   (.cons (.ret (.tup (.cons (.str "not") (.cons (.call "_law_wish" 3 (.cons (.var 0) (.cons (.var 1) (.cons (.bin .sub (.var 2) (.int 1)) .nil)))) .nil))))
   .nil)
   .nil)
  (.cons (.asg (.one 4) (.call "_law_wish" 3 (.cons (.var 0) (.cons (.var 1) (.cons (.bin .sub (.var 2) (.int 1)) .nil)))))
  (.cons (.ret (.tup (.cons (.call "_law_pick" 3 (.cons (.var 0) (.cons (.var 1) (.cons (.lst false (.cons (.str "and") (.cons (.str "or") .nil))) .nil)))) (.cons (.var 4) (.cons (.call "_law_wish" 3 (.cons (.var 0) (.cons (.var 1) (.cons (.bin .sub (.var 2) (.int 1)) .nil)))) .nil)))))
  .nil)))))⟩
section
variable {T : Tab} {gc : Str → Option D} {n : Nat} {st : Sto} {P : D → Sto → Prop} {E : Str → Sto → Prop}
theorem tw_lt {i k : Nat} (h : st[i]? = some (.lst (zeros k))) : i < st.length := by
  rcases Nat.lt_or_ge i st.length with z | z
  · exact z
  · rw [List.getElem?_eq_none z] at h; cases h
theorem tw_set {i k : Nat} (h : st[i]? = some (.lst (zeros k))) (k' : Nat) : (st.set i (.lst (zeros k')))[i]? = some (.lst (zeros k')) := List.getElem?_set_self (tw_lt h)
/-- a thing of short tuples -/
def wsh : Nat → D → Bool
  | _, .non => true
  | _, .bl _ => true
  | _, .int _ => true
  | _, .str _ => true
  | 0, _ => false
  | n + 1, .tup l => decide (l.length ≤ 3) && l.all (wsh n)
  | _ + 1, _ => false
theorem wsh_str (n : Nat) (x : Str) : wsh n (.str x) = true := by cases n <;> rfl
theorem wsh_mono : ∀ (n : Nat) (d : D), wsh n d = true → wsh (n + 1) d = true
  | n, .non, _ => by cases n <;> rfl
  | n, .bl _, _ => by cases n <;> rfl
  | n, .int _, _ => by cases n <;> rfl
  | n, .str _, _ => by cases n <;> rfl
  | 0, .tup _, h => by cases h
  | n + 1, .tup l, h => by
    have h : (decide (l.length ≤ 3) && l.all (wsh n)) = true := h
    show (decide (l.length ≤ 3) && l.all (wsh (n + 1))) = true
    simp only [Bool.and_eq_true, List.all_eq_true] at h ⊢
    exact ⟨h.1, fun x hx => wsh_mono n x (h.2 x hx)⟩
  | 0, .lst _, h => by cases h
  | _ + 1, .lst _, h => by cases h
  | 0, .ref _, h => by cases h
  | _ + 1, .ref _, h => by cases h
  | 0, .fn _, h => by cases h
  | _ + 1, .fn _, h => by cases h
  | 0, .scr _, h => by cases h
  | _ + 1, .scr _, h => by cases h
def wc : Nat → Nat
  | 0 => 3
  | l + 1 => 3 + 2 * wc l
theorem wc_ge (l : Nat) : 3 ≤ wc l := by cases l <;> simp [wc]
theorem wish_at (hT : T.get "_law_draw" = some k_draw) (hP : T.get "_law_pick" = some k_pick) (hW : T.get "_law_wish" = some k_wish) {ns : List Int} {i : Nat} : ∀ (left n k : Nat) (st : Sto), left + 3 < n → k + wc left < 1000000 → st[i]? = some (.lst (zeros k)) →
    wp (cfN T gc n "_law_wish" [.scr ns, .ref i, .int left]) st (fun d st1 => ∃ k', k' ≤ k + wc left ∧ wsh (left + 1) d = true ∧ (∃ l, d = .tup l) ∧ st1 = st.set i (.lst (zeros k'))) noX := by
  intro left
  induction left with
  | zero =>
    intro n k st hn hk hi
    obtain ⟨n, rfl⟩ : ∃ k, n = k + 1 := ⟨n - 1, by omega⟩
    have hw : wc 0 = 3 := rfl
    rw [w_fn hW]
    simp [k_wish]
    refine wp_go (draw_at hT (by omega) (by omega) hi (by omega)) ?_
    rintro _ _ ⟨j, h0, h1, rfl, rfl⟩
    refine wp_go (draw_at hT (by omega) (by omega) (tw_set hi _) (by omega)) ?_
    rintro _ _ ⟨j2, h0, h1, rfl, rfl⟩
    simp
    split
    · refine wp_go (pick_at hT hP (by omega) (by simp) (tw_set hi _) (by omega) (by simp)) ?_
      rintro d _ ⟨hd, rfl⟩
      rw [fnQ_rt (by simp) (fun i e => by cases e)]
      refine ⟨k + 1 + 1 + 1, by omega, ?_, ⟨_, rfl⟩, by simp⟩
      simp at hd
      rcases hd with rfl | rfl | rfl | rfl <;> simp [wsh, wsh_str]
    · refine wp_go (pick_at hT hP (by omega) (by simp) (tw_set hi _) (by omega) (by simp)) ?_
      rintro d _ ⟨hd, rfl⟩
      rw [fnQ_rt (by simp) (fun i e => by cases e)]
      refine ⟨k + 1 + 1 + 1, by omega, ?_, ⟨_, rfl⟩, by simp⟩
      simp at hd
      rcases hd with rfl | rfl | rfl | rfl | rfl | rfl <;> simp [wsh, wsh_str]
  | succ left ih =>
    intro n k st hn hk hi
    obtain ⟨n, rfl⟩ : ∃ k, n = k + 1 := ⟨n - 1, by omega⟩
    have hw : wc (left + 1) = 3 + 2 * wc left := rfl
    have := wc_ge left
    rw [w_fn hW]
    simp [k_wish]
    refine wp_go (draw_at hT (by omega) (by omega) hi (by omega)) ?_
    rintro _ _ ⟨j, h0, h1, rfl, rfl⟩
    simp
    split
    · refine wp_go (draw_at hT (by omega) (by omega) (tw_set hi _) (by omega)) ?_
      rintro _ _ ⟨j2, h0, h1, rfl, rfl⟩
      simp
      split
      · refine wp_go (pick_at hT hP (by omega) (by simp) (tw_set hi _) (by omega) (by simp)) ?_
        rintro d _ ⟨hd, rfl⟩
        rw [fnQ_rt (by simp) (fun i e => by cases e)]
        refine ⟨k + 1 + 1 + 1, by omega, ?_, ⟨_, rfl⟩, by simp⟩
        simp at hd
        rcases hd with rfl | rfl | rfl | rfl <;> simp [wsh, wsh_str]
      · refine wp_go (pick_at hT hP (by omega) (by simp) (tw_set hi _) (by omega) (by simp)) ?_
        rintro d _ ⟨hd, rfl⟩
        rw [fnQ_rt (by simp) (fun i e => by cases e)]
        refine ⟨k + 1 + 1 + 1, by omega, ?_, ⟨_, rfl⟩, by simp⟩
        simp at hd
        rcases hd with rfl | rfl | rfl | rfl | rfl | rfl <;> simp [wsh, wsh_str]
    · split
      · refine wp_go (draw_at hT (by omega) (by omega) (tw_set hi _) (by omega)) ?_
        rintro _ _ ⟨j2, h0, h1, rfl, rfl⟩
        simp
        split
        · refine wp_go (pick_at hT hP (by omega) (by simp) (tw_set hi _) (by omega) (by simp)) ?_
          rintro d _ ⟨hd, rfl⟩
          rw [fnQ_rt (by simp) (fun i e => by cases e)]
          refine ⟨k + 1 + 1 + 1, by omega, ?_, ⟨_, rfl⟩, by simp⟩
          simp at hd
          rcases hd with rfl | rfl | rfl | rfl <;> simp [wsh, wsh_str]
        · refine wp_go (pick_at hT hP (by omega) (by simp) (tw_set hi _) (by omega) (by simp)) ?_
          rintro d _ ⟨hd, rfl⟩
          rw [fnQ_rt (by simp) (fun i e => by cases e)]
          refine ⟨k + 1 + 1 + 1, by omega, ?_, ⟨_, rfl⟩, by simp⟩
          simp at hd
          rcases hd with rfl | rfl | rfl | rfl | rfl | rfl <;> simp [wsh, wsh_str]
      · split
        · refine wp_go (ih n _ _ (by omega) (by omega) (tw_set hi _)) ?_
          rintro d _ ⟨k1, hk1, hd, _, rfl⟩
          rw [fnQ_rt (by simp) (fun i e => by cases e)]
          refine ⟨k1, by omega, ?_, ⟨_, rfl⟩, by simp⟩
          simp [wsh, wsh_str]
          exact hd
        · refine wp_go (ih n _ _ (by omega) (by omega) (tw_set hi _)) ?_
          rintro d _ ⟨k1, hk1, hd, _, rfl⟩
          simp
          refine wp_go (pick_at hT hP (by omega) (by simp) (tw_set hi _) (by omega) (by simp)) ?_
          rintro d1 _ ⟨hd1, rfl⟩
          simp
          refine wp_go (ih n _ _ (by omega) (by omega) (tw_set hi _)) ?_
          rintro d2 _ ⟨k2, hk2, hd2, _, rfl⟩
          rw [fnQ_rt (by simp) (fun i e => by cases e)]
          refine ⟨k2, by omega, ?_, ⟨_, rfl⟩, by simp⟩
          simp at hd1
          rcases hd1 with rfl | rfl <;> simp [wsh, wsh_str, hd, hd2]
end
end TB
set_option Elab.async false
set_option linter.all false
set_option maxRecDepth 100000
set_option maxHeartbeats 4000000
/-! TB17: books, and the tries of a book -/
namespace TB
open PySem PySem.Spec L2
def k_p_joined : Def := ⟨"joined", ["one", "other"], ["one", "other", "word"],
  (.cons (.ret (.bin (.add false) (.var 0) (.blt .tuple (.lc false [("word", 2)] (.one 2) (.seq (.var 1)) (.some (.cmp .NotIn (.var 2) (.var 0))) (.var 2)))))
  .nil)⟩

def k_p_tries_in : Def := ⟨"tries_in", ["members", "ahead", "marks", "wants"], ["members", "ahead", "marks", "wants", "found", "one", "path", "mine", "need", "number", "deeds"],
  (.cons (.asg (.one 4) (.lst true .nil))
  (.cons (.for_ (.one 5) (.seq (.var 0))
   (.cons (.asg (.one 6) (.bin (.add false) (.var 1) (.idx (.var 5) (.int 1))))
   (.cons (.asg (.one 7) (.call "joined" 2 (.cons (.var 2) (.cons (.idx (.var 5) (.int 2)) .nil))))
   (.cons (.asg (.one 8) (.call "joined" 2 (.cons (.var 3) (.cons (.idx (.var 5) (.int 3)) .nil))))
   (.cons (.ife (.cmp .Eq (.idx (.var 5) (.int 0)) (.str "group"))
    (.cons (.expr (.bm .extend (.var 4) (.cons (.call "tries_in" 4 (.cons (.idx (.var 5) (.int 4)) (.cons (.bin (.add false) (.var 6) (.str "/")) (.cons (.var 7) (.cons (.var 8) .nil))))) .nil)))
    .nil)
    (.cons (.ife (.cmp .Eq (.idx (.var 5) (.int 0)) (.str "try"))
     (.cons (.expr (.bm .append (.var 4) (.cons (.tup (.cons (.var 6) (.cons (.var 1) (.cons (.var 7) (.cons (.var 8) (.cons (.idx (.var 5) (.int 4)) .nil)))))) .nil)))
     .nil)
     (.cons (.for_ (.one 9) (.seq (.idx (.var 5) (.int 5)))
      (.cons (.asg (.one 10) (.bin (.add false) (.tup (.cons (.tup (.cons (.str "set") (.cons (.idx (.var 5) (.int 4)) (.cons (.var 9) .nil)))) .nil)) (.idx (.var 5) (.int 6))))
      (.cons (.expr (.bm .append (.var 4) (.cons (.tup (.cons (.bin (.add false) (.bin (.add false) (.var 6) (.str "=")) (.blt .str (.var 9))) (.cons (.var 1) (.cons (.var 7) (.cons (.var 8) (.cons (.var 10) .nil)))))) .nil)))
      .nil)))
     .nil))
    .nil))
   .nil)))))
  (.cons (.ret (.var 4))
  .nil)))⟩

def k_p_tries_of : Def := ⟨"tries_of", ["book"], ["book"],
  (.cons (.ret (.call "tries_in" 4 (.cons (.idx (.var 0) (.int 1)) (.cons (.str "") (.cons (.tup .nil) (.cons (.tup .nil) .nil))))))
  .nil)⟩

def k_p_paths : Def := ⟨"paths", ["book"], ["book", "one"],
  (.cons (.ret (.blt .tuple (.lc false [("one", 1)] (.one 1) (.seq (.call "tries_of" 1 (.cons (.var 0) .nil))) .none (.idx (.var 1) (.int 0)))))
  .nil)⟩

/-! ### what books are -/
inductive Deed where
  | set (k : Str) (n : Int) | add (k : Str) (n : Int) | ask (k : Str) (n : Int) | say (w : Str) | fail | leave
inductive Mem where
  | try_ (name : Str) (marks wants : List Str) (deeds : List Deed)
  | many (name : Str) (marks wants : List Str) (key : Str) (nums : List Int) (deeds : List Deed)
  | group (name : Str) (marks wants : List Str) (ms : List Mem)
structure Stage where
  name : Str
  reach : Str
  wants : List Str
  ups : List Deed
  downs : List Deed
structure Book where
  stages : List Stage
  mems : List Mem
/-- a row of a try -/
structure Row where
  path : Str
  group : Str
  marks : List Str
  wants : List Str
  deeds : List Deed
def sD (l : List Str) : D := .tup (l.map .str)
def Deed.d : Deed → D
  | .set k n => .tup [.str "set", .str k, .int n]
  | .add k n => .tup [.str "add", .str k, .int n]
  | .ask k n => .tup [.str "ask", .str k, .int n]
  | .say w => .tup [.str "say", .str w]
  | .fail => .tup [.str "fail"]
  | .leave => .tup [.str "leave"]
def dsD (l : List Deed) : D := .tup (l.map Deed.d)
mutual
def Mem.d : Mem → D
  | .try_ n m w ds => .tup [.str "try", .str n, sD m, sD w, dsD ds]
  | .many n m w k ns ds => .tup [.str "many", .str n, sD m, sD w, .str k, .tup (ns.map .int), dsD ds]
  | .group n m w ms => .tup [.str "group", .str n, sD m, sD w, .tup (memsD ms)]
def memsD : List Mem → List D
  | [] => []
  | m :: ms => m.d :: memsD ms
end
def Stage.d (s : Stage) : D := .tup [.str s.name, .str s.reach, sD s.wants, dsD s.ups, dsD s.downs]
def Book.d (b : Book) : D := .tup [.tup (b.stages.map Stage.d), .tup (memsD b.mems)]
def Row.d (r : Row) : D := .tup [.str r.path, .str r.group, sD r.marks, sD r.wants, dsD r.deeds]
def joinL (a b : List Str) : List Str := a ++ b.filter fun x => decide (x ∉ a)
def numStr (i : Int) : Str := Str.ofString (toString i)
mutual
def Mem.rows (ahead : Str) (marks wants : List Str) : Mem → List Row
  | .try_ n m w ds => [⟨ahead ++ n, ahead, joinL marks m, joinL wants w, ds⟩]
  | .many n m w k ns ds => ns.map fun i => ⟨ahead ++ n ++ "=" ++ numStr i, ahead, joinL marks m, joinL wants w, .set k i :: ds⟩
  | .group n m w ms => rowsIn (ahead ++ n ++ "/") (joinL marks m) (joinL wants w) ms
def rowsIn (ahead : Str) (marks wants : List Str) : List Mem → List Row
  | [] => []
  | m :: ms => m.rows ahead marks wants ++ rowsIn ahead marks wants ms
end
def Book.rows (b : Book) : List Row := rowsIn "" [] [] b.mems
/-- how much there is of a member, for the machine's sake -/
def smallL (l : List Str) : Prop := l.length ≤ 100
def fitI (i : Int) : Prop := -100 ≤ i ∧ i ≤ 100
mutual
def Mem.fit : Nat → Mem → Prop
  | _, .try_ n m w ds => n.length ≤ 20 ∧ m.length ≤ 20 ∧ w.length ≤ 20 ∧ ds.length ≤ 20
  | _, .many n m w k ns ds => n.length ≤ 20 ∧ m.length ≤ 20 ∧ w.length ≤ 20 ∧ ds.length ≤ 20 ∧ ns.length ≤ 20 ∧ ∀ i ∈ ns, fitI i
  | 0, .group _ _ _ _ => False
  | k + 1, .group n m w ms => n.length ≤ 20 ∧ m.length ≤ 20 ∧ w.length ≤ 20 ∧ ms.length ≤ 20 ∧ fitsIn k ms
def fitsIn : Nat → List Mem → Prop
  | _, [] => True
  | k, m :: ms => m.fit k ∧ fitsIn k ms
end
end TB
set_option Elab.async false
set_option linter.all false
set_option maxRecDepth 100000
set_option maxHeartbeats 4000000
/-! TB18: joined, tries_in -/
namespace TB
open PySem PySem.Spec L2
theorem map_toNat_inj : ∀ {a b : List Char}, a.map Char.toNat = b.map Char.toNat → a = b
  | [], [], _ => rfl
  | [], _ :: _, h => by cases h
  | _ :: _, [], h => by cases h
  | x :: a, y :: b, h => by
    simp only [List.map_cons, List.cons.injEq] at h
    rw [map_toNat_inj h.2, Char.toNat_inj.mp h.1]
@[simp] theorem ofS_inj (a b : String) : (Str.ofString a = Str.ofString b) = (a = b) := by
  apply propext
  constructor
  · intro h
    have h := congrArg (fun z => z.cps.toList) h
    simp only [Str.ofString] at h
    rw [cpsOfBytes_string, cpsOfBytes_string] at h
    exact String.toList_inj.mp (map_toNat_inj h)
  · rintro rfl; rfl
theorem pys_str : ∀ l : List Str, D.pys (l.map .str) = some (l.map .str)
  | [] => rfl
  | x :: l => by simp [D.pys, D.py, pys_str l]
theorem pys_int : ∀ l : List Int, D.pys (l.map .int) = some (l.map .int)
  | [] => rfl
  | x :: l => by simp [D.pys, D.py, pys_int l]
theorem depth_strs : ∀ l : List Str, PyData.depthAll (l.map .str) = 0
  | [] => rfl
  | x :: l => by simp [PyData.depthAll, PyData.depth, depth_strs l]
theorem any_strs (x : Str) : ∀ l : List Str, ((l.map PyData.str).any fun z => z.eqv (.str x)) = decide (x ∈ l)
  | [] => rfl
  | y :: l => by
    rw [List.map_cons, List.any_cons, any_strs x l]
    have : (y == x) = decide (x = y) := by rw [Bool.eq_iff_iff, beq_iff_eq, decide_eq_true_eq]; exact eq_comm
    simp [PyData.eqv, List.mem_cons, this]
theorem inL_strs (x : Str) (l : List Str) : inL (.str x) (l.map .str) = some (decide (x ∈ l)) := by
  simp only [inL, D.py, pys_str, PyData.depth, depth_strs, any_strs]
  rfl
@[simp] theorem in_sD {st : Sto} (x : Str) (l : List Str) : inT st (.str x) (sD l) = some (decide (x ∈ l)) := inL_strs x l
@[simp] theorem in_tS {st : Sto} (x : Str) (l : List Str) : inT st (.str x) (.tup (l.map .str)) = some (decide (x ∈ l)) := inL_strs x l
@[simp] theorem in_lS {st : Sto} (x : Str) (l : List Str) : inT st (.str x) (.lst (l.map .str)) = some (decide (x ∈ l)) := inL_strs x l
theorem filter_str (p : Str → Bool) (f : D → Bool) (h : ∀ x, f (.str x) = p x) : ∀ l : List Str, (l.map D.str).filter f = (l.filter p).map .str
  | [] => rfl
  | x :: l => by
    rw [List.map_cons]
    by_cases e : p x = true
    · rw [List.filter_cons_of_pos (by rw [h]; exact e), List.filter_cons_of_pos e, List.map_cons, filter_str p f h l]
    · rw [List.filter_cons_of_neg (by rw [h]; exact e), List.filter_cons_of_neg e, filter_str p f h l]
theorem joinL_len (a b : List Str) : (joinL a b).length ≤ a.length + b.length := by
  unfold joinL
  rw [List.length_append]
  have := List.length_filter_le (fun x => decide (x ∉ a)) b
  omega
section
variable {T : Tab} {gc : Str → Option D} {n : Nat} {st : Sto} {P : D → Sto → Prop} {E : Str → Sto → Prop}
theorem joined_at (hJ : T.get "joined" = some k_p_joined) (hn : 0 < n) (a b : List Str) (hl : a.length + b.length ≤ 1000000) : wp (cfN T gc n "joined" [sD a, sD b]) st P E = P (sD (joinL a b)) st := by
  obtain ⟨n, rfl⟩ : ∃ k, n = k + 1 := ⟨n - 1, by omega⟩
  rw [w_fn hJ]
  simp [k_p_joined, sD]
  rw [lc_pure (fun d => [some (.tup (a.map .str)), some (.tup (b.map .str)), some d]) (fun d => match d with | .str x => decide (x ∉ a) | _ => true) id (by trivial) _ _ (fun d _ => rfl)]
  · have hf := List.length_filter_le (fun x => decide (x ∉ a)) b
    rw [List.map_id, filter_str (fun x => decide (x ∉ a)) _ (fun x => rfl)]
    rw [fnQ_rt rfl (fun i e => by cases e)]
    have hf2 := List.length_filter_le (fun x => !decide (x ∈ a)) b
    simp [joinL]
    exact ⟨fun h => h.2.2, fun h => ⟨by omega, by omega, h⟩⟩
  · intro d hd P
    obtain ⟨x, hx, rfl⟩ := List.mem_map.mp hd
    simp
  · intro d hd _ P
    simp
/-! ### tries_in -/
@[simp] theorem q_add_str {m : Bool} {x y : Str} (h : x.length + y.length ≤ 16777216) : wp (opAdd m (.str x) (.str y)) st P E = P (.str (x ++ y)) st := by
  unfold wp opAdd
  simp [h]
theorem num_all : ∀ n : Fin 201, ((n.val : Int) - 100).natAbs.log2 < 1920 ∧ (numStr ((n.val : Int) - 100)).length ≤ 10 := by decide +kernel
theorem num_fit {i : Int} (h : fitI i) : i.natAbs.log2 < 1920 ∧ (numStr i).length ≤ 10 := by
  have h1 := h.1
  have h2 := h.2
  have := num_all ⟨(i + 100).toNat, by omega⟩
  have e : (((i + 100).toNat : Nat) : Int) - 100 = i := by omega
  simp only [e] at this
  exact this
theorem q_str_int {i : Int} (h : fitI i) : wp (gStr [.int i]) st P E = P (.str (numStr i)) st := by
  obtain ⟨h1, h2⟩ := num_fit h
  have h3 : (Str.ofString (toString i)).length ≤ sizeLine := Nat.le_trans h2 (by decide)
  unfold wp gStr
  dsimp only
  rw [if_pos ⟨h1, h3⟩]
  rfl
theorem q_ext {i : Nat} {l m : List D} (h : st[i]? = some (.lst l)) (hl : l.length + m.length ≤ 16777216) : wp (gExtend (.ref i) [.lst m]) st P E = P .non (st.set i (.lst (l ++ m))) := by
  unfold wp gExtend
  simp [h, hl]
def rowsD (l : List Row) : List D := l.map Row.d
mutual
theorem Mem.rows_len : ∀ (k : Nat) (m : Mem) (a : Str) (ms ws : List Str), m.fit k → (m.rows a ms ws).length ≤ 20 ^ (k + 1)
  | k, .try_ n m w ds, a, ms, ws, h => by simp [Mem.rows]; exact Nat.one_le_pow _ _ (by omega)
  | k, .many n m w q ns ds, a, ms, ws, h => by
    simp [Mem.rows]
    simp only [Mem.fit] at h
    have : 20 ≤ 20 ^ (k + 1) := by rw [Nat.pow_succ]; exact Nat.le_mul_of_pos_left _ (Nat.pow_pos (by omega))
    omega
  | 0, .group n m w mm, a, ms, ws, h => by simp [Mem.fit] at h
  | k + 1, .group n m w mm, a, ms, ws, h => by
    simp only [Mem.fit] at h
    simp only [Mem.rows]
    have := rowsIn_len k mm (a ++ n ++ "/") (joinL ms m) (joinL ws w) h.2.2.2.2
    have h2 : mm.length * 20 ^ (k + 1) ≤ 20 * 20 ^ (k + 1) := Nat.mul_le_mul_right _ h.2.2.2.1
    rw [Nat.pow_succ 20 (k + 1), Nat.mul_comm (20 ^ (k + 1)) 20]
    omega
theorem rowsIn_len : ∀ (k : Nat) (l : List Mem) (a : Str) (ms ws : List Str), fitsIn k l → (rowsIn a ms ws l).length ≤ l.length * 20 ^ (k + 1)
  | k, [], a, ms, ws, h => by simp [rowsIn]
  | k, m :: l, a, ms, ws, h => by
    simp only [fitsIn] at h
    have h1 := Mem.rows_len k m a ms ws h.1
    have h2 := rowsIn_len k l a ms ws h.2
    simp only [rowsIn, List.length_append, List.length_cons, Nat.add_mul, Nat.one_mul]
    omega
end

theorem wp_det {τ : Type} {m : M τ} {st s1 : Sto} {v : τ} (h : wp m st (fun d st1 => d = v ∧ st1 = s1) noX) (P : τ → Sto → Prop) (E : Str → Sto → Prop) : wp m st P E = P v s1 := by
  obtain ⟨d, st1, e, rfl, rfl⟩ := wp_ok h
  unfold wp
  rw [e]
theorem memsD_app : ∀ a b : List Mem, memsD (a ++ b) = memsD a ++ memsD b
  | [], b => rfl
  | m :: a, b => by simp [memsD, memsD_app a b]
theorem rowsIn_app (x : Str) (mk ws : List Str) : ∀ a b : List Mem, rowsIn x mk ws (a ++ b) = rowsIn x mk ws a ++ rowsIn x mk ws b
  | [], b => rfl
  | m :: a, b => by simp [rowsIn, rowsIn_app x mk ws a b]
theorem fitsIn_app {k : Nat} : ∀ {a b : List Mem}, fitsIn k (a ++ b) → fitsIn k a ∧ fitsIn k b
  | [], b, h => ⟨trivial, h⟩
  | m :: a, b, h => by
    simp only [List.cons_append, fitsIn] at h ⊢
    obtain ⟨h1, h2⟩ := fitsIn_app h.2
    exact ⟨⟨h.1, h1⟩, h2⟩
theorem at4 {α : Type} (a b c d e : α) (l : List α) : atI (a :: b :: c :: d :: e :: l) 4 = some e := by
  have : (4 : Int) < (l.length : Int) + 1 + 1 + 1 + 1 + 1 := by omega
  simp [atI, ixN, this]
theorem at3 {α : Type} (a b c d : α) (l : List α) : atI (a :: b :: c :: d :: l) 3 = some d := by
  have : (3 : Int) < (l.length : Int) + 1 + 1 + 1 + 1 := by omega
  simp [atI, ixN, this]
theorem at5 {α : Type} (a b c d e f : α) (l : List α) : atI (a :: b :: c :: d :: e :: f :: l) 5 = some f := by
  have : (5 : Int) < (l.length : Int) + 1 + 1 + 1 + 1 + 1 + 1 := by omega
  simp [atI, ixN, this]
theorem at6 {α : Type} (a b c d e f g : α) (l : List α) : atI (a :: b :: c :: d :: e :: f :: g :: l) 6 = some g := by
  have : (6 : Int) < (l.length : Int) + 1 + 1 + 1 + 1 + 1 + 1 + 1 := by omega
  simp [atI, ixN, this]
@[simp] theorem end_get (st : Sto) (o : MO) : (st ++ [o])[st.length]? = some o := by simp
@[simp] theorem bt_end (st : Sto) (l : List D) : btOk (st ++ [.lst l]) (.ref st.length) .list = true := bt_ref (l := l) (by simp)
theorem app_end {st : Sto} {l : List D} {x : D} (hl : l.length < 16777216) : wp (gAppend (.ref st.length) [x]) (st ++ [.lst l]) P E = P .non (st ++ [.lst (l ++ [x])]) := by
  rw [q_app (by simp) hl, set_end]
theorem ext_end {st : Sto} {l m : List D} (hl : l.length + m.length ≤ 16777216) : wp (gExtend (.ref st.length) [.lst m]) (st ++ [.lst l]) P E = P .non (st ++ [.lst (l ++ m)]) := by
  rw [q_ext (by simp) hl, set_end]
theorem rlt_str (n : Nat) : ∀ l : List Str, D.rlts n (l.map .str) = true
  | [] => rfl
  | x :: l => by simp [D.rlts, D.rlt, rlt_str n l]
theorem rlt_sD (n : Nat) (l : List Str) : (sD l).rlt n = true := rlt_str n l
theorem rlt_deed (n : Nat) (d : Deed) : d.d.rlt n = true := by cases d <;> rfl
theorem rlt_deeds (n : Nat) : ∀ l : List Deed, D.rlts n (l.map Deed.d) = true
  | [] => rfl
  | x :: l => by simp [D.rlts, rlt_deed, rlt_deeds n l]
theorem rlt_dsD (n : Nat) (l : List Deed) : (dsD l).rlt n = true := rlt_deeds n l
theorem rlt_row (n : Nat) (r : Row) : r.d.rlt n = true := by
  simp [Row.d, D.rlt, D.rlts, rlt_sD, rlt_dsD]
theorem rlt_rows (n : Nat) : ∀ l : List Row, D.rlts n (rowsD l) = true
  | [] => rfl
  | x :: l => by
    have := rlt_rows n l
    simp [rowsD] at this
    simp [rowsD, D.rlts, rlt_row, this]
/-- tries_in: the rows of the members -/
theorem tries_in_at (hJ : T.get "joined" = some k_p_joined) (hT : T.get "tries_in" = some k_p_tries_in) (k : Nat) : ∀ (n : Nat) (st : Sto) (ms : List Mem) (a : Str) (mk ws : List Str), fitsIn k ms → ms.length ≤ 20 → k + 2 < n → k ≤ 3 → a.length + 30 * (k + 1) ≤ 1000 → mk.length + 30 * (k + 1) ≤ 1000 → ws.length + 30 * (k + 1) ≤ 1000 →
    wp (cfN T gc n "tries_in" [.tup (memsD ms), .str a, sD mk, sD ws]) st (fun d st1 => d = .lst (rowsD (rowsIn a mk ws ms)) ∧ st1 = st) noX := by
  induction k using Nat.strongRecOn with
  | ind k ih =>
    intro n st ms a mk ws hf hl hn hk ha hm hw
    obtain ⟨n, rfl⟩ : ∃ k, n = k + 1 := ⟨n - 1, by omega⟩
    rw [w_fn hT]
    simp [k_p_tries_in]
    have bnd : ∀ (pre post : List Mem) (m : Mem), ms = pre ++ m :: post → (rowsD (rowsIn a mk ws pre)).length ≤ 3200000 := by
      intro pre post m e
      have h1 := rowsIn_len k pre a mk ws (by rw [e] at hf; exact (fitsIn_app hf).1)
      have h2 : pre.length ≤ 20 := by rw [e, List.length_append] at hl; omega
      have h3 : pre.length * 20 ^ (k + 1) ≤ 20 * 20 ^ 4 := Nat.mul_le_mul h2 (Nat.pow_le_pow_right (by omega) (by omega))
      rw [rowsD, List.length_map]
      have : (20 : Nat) * 20 ^ 4 = 3200000 := by decide
      omega
    refine loop_inv (fun ds ρ st2 => ∃ pre post x5 x6 x7 x8 x9 x10, ms = pre ++ post ∧ ds = memsD post ∧ st2 = st ++ [.lst (rowsD (rowsIn a mk ws pre))] ∧ ρ = [some (.tup (memsD ms)), some (.str a), some (sD mk), some (sD ws), some (.ref st.length), x5, x6, x7, x8, x9, x10]) ?_ ?_ ?_ _ _ _ ?_
    · intro ds ρ st2 _
      trivial
    · rintro d ds _ _ ⟨pre, post, x5, x6, x7, x8, x9, x10, e1, e2, rfl, rfl⟩
      cases post with
      | nil => cases e2
      | cons m post =>
        simp only [memsD, List.cons.injEq] at e2
        obtain ⟨rfl, rfl⟩ := e2
        refine ⟨_, rfl, ?_⟩
        rw [e1] at hf
        obtain ⟨f1, f2⟩ := fitsIn_app hf
        simp only [fitsIn] at f2
        obtain ⟨f2, f3⟩ := f2
        have hlen := bnd pre post _ e1
        cases m with
        | try_ nm mm w ds =>
          simp only [Mem.fit] at f2
          simp [Mem.d, at3, at4, q_add_str (show a.length + nm.length ≤ 16777216 by omega), joined_at hJ (show 0 < n by omega) mk mm (by omega), joined_at hJ (show 0 < n by omega) ws w (by omega), app_end (show (rowsD (rowsIn a mk ws pre)).length < 16777216 by omega)]
          refine ⟨pre ++ [.try_ nm mm w ds], post, by simp [e1], rfl, ?_⟩
          simp [rowsIn_app, rowsIn, Mem.rows, rowsD, Row.d]
        | many nm mm w ky ns ds =>
          simp only [Mem.fit] at f2
          obtain ⟨g1, g2, g3, g4, g5, g6⟩ := f2
          simp [Mem.d, at3, at4, at5, q_add_str (show a.length + nm.length ≤ 16777216 by omega), joined_at hJ (show 0 < n by omega) mk mm (by omega), joined_at hJ (show 0 < n by omega) ws w (by omega)]
          refine loop_inv (fun ds2 ρ st2 => ∃ pre2 post2 y9 y10, ns = pre2 ++ post2 ∧ ds2 = post2.map D.int ∧ st2 = st ++ [.lst (rowsD (rowsIn a mk ws pre ++ pre2.map fun i => ⟨a ++ nm ++ "=" ++ numStr i, a, joinL mk mm, joinL ws w, .set ky i :: ds⟩))] ∧
            ρ = [some (.tup (memsD ms)), some (.str a), some (sD mk), some (sD ws), some (.ref st.length), some (Mem.many nm mm w ky ns ds).d, some (.str (a ++ nm)), some (sD (joinL mk mm)), some (sD (joinL ws w)), y9, y10]) ?_ ?_ ?_ _ _ _ ?_
          · intro ds ρ st2 _
            trivial
          · rintro d2 ds2 _ _ ⟨pre2, post2, y9, y10, q1, q2, rfl, rfl⟩
            cases post2 with
            | nil => cases q2
            | cons i post2 =>
              simp only [List.map_cons, List.cons.injEq] at q2
              obtain ⟨rfl, rfl⟩ := q2
              refine ⟨_, rfl, ?_⟩
              have hi : fitI i := g6 i (by rw [q1]; simp)
              have hi2 := (num_fit hi).2
              have hl2 : (rowsD (rowsIn a mk ws pre ++ pre2.map fun i => (⟨a ++ nm ++ "=" ++ numStr i, a, joinL mk mm, joinL ws w, .set ky i :: ds⟩ : Row))).length < 16777216 := by
                have : pre2.length ≤ 20 := by rw [q1, List.length_append] at g5; omega
                simp [rowsD] at hlen ⊢
                omega
              have s1 : ("=" : Str).length = 1 := by decide +kernel
              have l1 : (a ++ nm).length = a.length + nm.length := len_app _ _
              have l2 : (a ++ nm ++ "=").length = a.length + nm.length + 1 := by rw [len_app, l1, s1]
              have hdl : (ds.length + 1 ≤ 16777216) = True := eq_true (by omega)
              have hdl2 : (ds.length ≤ 16777215) = True := eq_true (by omega)
              simp [Mem.d, at4, at6, q_add_str (show (a ++ nm).length + ("=" : Str).length ≤ 16777216 by omega), q_add_str (show (a ++ nm ++ "=").length + (numStr i).length ≤ 16777216 by omega), q_str_int hi, app_end hl2, dsD, hdl, hdl2]
              refine ⟨pre2 ++ [i], post2, by simp [q1], rfl, ?_⟩
              simp [rowsD, Row.d, dsD, Deed.d]
          · rintro _ _ ⟨pre2, post2, y9, y10, q1, q2, rfl, rfl⟩
            cases post2 with
            | cons i post2 => cases q2
            | nil =>
              rw [List.append_nil] at q1
              subst q1
              simp
              refine ⟨pre ++ [.many nm mm w ky ns ds], post, by simp [e1], rfl, ?_⟩
              simp [rowsIn_app, rowsIn, Mem.rows, rowsD]
          · exact ⟨[], ns, _, _, rfl, rfl, by simp, rfl⟩
        | group nm mm w mem =>
          cases k with
          | zero => simp [Mem.fit] at f2
          | succ k =>
            simp only [Mem.fit] at f2
            obtain ⟨g1, g2, g3, g4, g5⟩ := f2
            have j1 := joinL_len mk mm
            have j2 := joinL_len ws w
            have s1 : ("/" : Str).length = 1 := by decide +kernel
            have l1 : (a ++ nm).length = a.length + nm.length := len_app _ _
            have l2 : (a ++ nm ++ "/").length = a.length + nm.length + 1 := by rw [len_app, l1, s1]
            simp [Mem.d, at3, at4, q_add_str (show a.length + nm.length ≤ 16777216 by omega), q_add_str (show (a ++ nm).length + ("/" : Str).length ≤ 16777216 by omega), joined_at hJ (show 0 < n by omega) mk mm (by omega), joined_at hJ (show 0 < n by omega) ws w (by omega)]
            rw [wp_det (ih k (by omega) n _ mem (a ++ nm ++ "/") (joinL mk mm) (joinL ws w) g5 g4 (by omega) (by omega) (by omega) (by omega) (by omega))]
            have hl2 : (rowsD (rowsIn (a ++ nm ++ "/") (joinL mk mm) (joinL ws w) mem)).length ≤ 3200000 := by
              have h1 := rowsIn_len k mem (a ++ nm ++ "/") (joinL mk mm) (joinL ws w) g5
              have h3 : mem.length * 20 ^ (k + 1) ≤ 20 * 20 ^ 4 := Nat.mul_le_mul g4 (Nat.pow_le_pow_right (by omega) (by omega))
              rw [rowsD, List.length_map]
              have : (20 : Nat) * 20 ^ 4 = 3200000 := by decide
              omega
            rw [ext_end (by omega)]
            refine ⟨pre ++ [.group nm mm w mem], post, by simp [e1], rfl, ?_⟩
            simp [rowsIn_app, rowsIn, Mem.rows, rowsD]
    · rintro _ _ ⟨pre, post, x5, x6, x7, x8, x9, x10, e1, e2, rfl, rfl⟩
      cases post with
      | cons m post => cases e2
      | nil =>
        rw [List.append_nil] at e1
        subst e1
        simp
        rw [fnQ_list (l := rowsD (rowsIn a mk ws ms)) (Nat.le_refl _) (by simp) (rlt_rows _ _) (.inl (by simp))]
        exact ⟨rfl, by simp⟩
    · exact ⟨[], ms, _, _, _, _, _, _, rfl, rfl, rfl, rfl⟩
end
end TB
set_option Elab.async false
set_option linter.all false
set_option maxRecDepth 100000
set_option maxHeartbeats 4000000
/-! TB19: how the laws make books -/
namespace TB
open PySem PySem.Spec L2
def k_mixed : Def := ⟨"_law_mixed", ["script", "town", "row"], ["script", "town", "row", "left", "got"],
  (.cons (.par 3 4 (.blt (.list true) (.var 2)) (.lst true .nil))
  (.cons (.whl 10000 (.var 3)
   (.cons (.expr (.bm .append (.var 4) (.cons (.bm .pop (.var 3) (.cons (.call "_law_draw" 3 (.cons (.var 0) (.cons (.var 1) (.cons (.blt .len (.var 3)) .nil)))) .nil)) .nil)))
   .nil))
  (.cons (.ret (.var 4))
  .nil)))⟩

def k_some : Def := ⟨"_law_some", ["script", "town", "row", "top"], ["script", "town", "row", "top", "got", "k", "one"],
  (.cons (.asg (.one 4) (.tup .nil))
  (.cons (.for_ (.one 5) (.rng1 (.bin (.mul false) (.call "_law_draw" 3 (.cons (.var 0) (.cons (.var 1) (.cons (.bin (.add false) (.var 3) (.int 1)) .nil)))) (.blt .int (.cmp .Gt (.blt .len (.var 2)) (.int 0)))))
   (.cons (.asg (.one 6) (.call "_law_pick" 3 (.cons (.var 0) (.cons (.var 1) (.cons (.var 2) .nil)))))
   (.cons (.asg (.one 4) (.bin (.add false) (.var 4) (.bin (.mul false) (.tup (.cons (.var 6) .nil)) (.blt .int (.cmp .NotIn (.var 6) (.var 4))))))
   .nil)))
  (.cons (.ret (.var 4))
  .nil)))⟩

def k_deeds : Def := ⟨"_law_deeds", ["script", "town", "top"], ["script", "town", "top", "got", "k", "kinds", "key", "number"],
  (.cons (.asg (.one 3) (.tup .nil))
  (.cons (.for_ (.one 4) (.rng1 (.call "_law_draw" 3 (.cons (.var 0) (.cons (.var 1) (.cons (.bin (.add false) (.var 2) (.int 1)) .nil)))))
   (.cons (.par 6 7 (.call "_law_pick" 3 (.cons (.var 0) (.cons (.var 1) (.cons (.str "kmn") .nil)))) (.bin .sub (.call "_law_draw" 3 (.cons (.var 0) (.cons (.var 1) (.cons (.int 4) .nil)))) (.int 1)))
   (.cons (.asg (.one 5) (.lst false (.cons (.tup (.cons (.str "set") (.cons (.var 6) (.cons (.var 7) .nil)))) (.cons (.tup (.cons (.str "add") (.cons (.var 6) (.cons (.var 7) .nil)))) (.cons (.tup (.cons (.str "add") (.cons (.var 6) (.cons (.var 7) .nil)))) (.cons (.tup (.cons (.str "ask") (.cons (.var 6) (.cons (.var 7) .nil)))) .nil))))))
   (.cons (.asg (.one 5) (.bin (.add false) (.var 5) (.lst false (.cons (.tup (.cons (.str "say") (.cons (.call "_law_pick" 3 (.cons (.var 0) (.cons (.var 1) (.cons (.lst false (.cons (.str "a") (.cons (.str "bc") (.cons (.str "d") .nil)))) .nil)))) .nil))) (.cons (.tup (.cons (.str "fail") .nil)) (.cons (.tup (.cons (.str "leave") .nil)) .nil))))))
   (.cons (.asg (.one 3) (.bin (.add false) (.var 3) (.tup (.cons (.idx (.var 5) (.call "_law_pick" 3 (.cons (.var 0) (.cons (.var 1) (.cons (.lst false (.cons (.int 0) (.cons (.int 1) (.cons (.int 2) (.cons (.int 3) (.cons (.int 3) (.cons (.int 4) (.cons (.int 4) (.cons (.int 4) (.cons (.int 0) (.cons (.int 1) (.cons (.int 5) (.cons (.int 6) .nil))))))))))))) .nil))))) .nil))))
   .nil)))))
  (.cons (.ret (.var 3))
  .nil)))⟩

def k_stages : Def := ⟨"_law_stages", ["script", "town"], ["script", "town", "got", "far", "name", "reach", "row", "wants", "ups", "one"],
  (.cons (.asg (.one 2) (.tup .nil))
  (.cons (.asg (.one 3) (.dsp [.inr "each", .inr "group", .inr "all"] (.cons (.int 0) (.cons (.int 1) (.cons (.int 2) .nil)))))
  (.cons (.for_ (.one 4) (.seq (.slc false (.call "_law_mixed" 3 (.cons (.var 0) (.cons (.var 1) (.cons (.tup (.cons (.str "p") (.cons (.str "q") (.cons (.str "r") (.cons (.str "s") (.cons (.str "tu") (.cons (.str "v") .nil))))))) .nil)))) .none (.some (.call "_law_draw" 3 (.cons (.var 0) (.cons (.var 1) (.cons (.int 7) .nil)))))))
   (.cons (.asg (.one 5) (.call "_law_pick" 3 (.cons (.var 0) (.cons (.var 1) (.cons (.lst false (.cons (.str "each") (.cons (.str "group") (.cons (.str "all") .nil)))) .nil)))))
   (.cons (.asg (.one 6) (.lc false [("one", 9)] (.one 9) (.seq (.var 2)) (.some (.cmp .GtE (.idx (.var 3) (.idx (.var 9) (.int 1))) (.idx (.var 3) (.var 5)))) (.idx (.var 9) (.int 0))))
   (.cons (.asg (.one 7) (.call "_law_some" 4 (.cons (.var 0) (.cons (.var 1) (.cons (.var 6) (.cons (.int 2) .nil))))))
   (.cons (.asg (.one 8) (.call "_law_deeds" 3 (.cons (.var 0) (.cons (.var 1) (.cons (.int 2) .nil)))))
   (.cons (.asg (.one 2) (.bin (.add false) (.var 2) (.tup (.cons (.tup (.cons (.var 4) (.cons (.var 5) (.cons (.var 7) (.cons (.var 8) (.cons (.call "_law_deeds" 3 (.cons (.var 0) (.cons (.var 1) (.cons (.int 2) .nil)))) .nil)))))) .nil))))
   .nil))))))
  (.cons (.ret (.var 2))
  .nil))))⟩

def k_member : Def := ⟨"_law_member", ["script", "town", "name", "names", "left"], ["script", "town", "name", "names", "left", "kind", "marks", "wants", "numbers"],
  (.cons (.par 6 7 (.call "_law_some" 4 (.cons (.var 0) (.cons (.var 1) (.cons (.lst false (.cons (.str "x") (.cons (.str "y") (.cons (.str "slow") .nil)))) (.cons (.int 2) .nil))))) (.call "_law_some" 4 (.cons (.var 0) (.cons (.var 1) (.cons (.var 3) (.cons (.int 2) .nil))))))
  (.cons (.asg (.one 5) (.call "_law_draw" 3 (.cons (.var 0) (.cons (.var 1) (.cons (.int 6) .nil)))))
  (.cons (.ife (.band (.cons (.cmp .Lt (.var 5) (.int 2)) (.cons (.cmp .Gt (.var 4) (.int 0)) .nil)))
   (.cons (.ret (.tup (.cons (.str "group") (.cons (.var 2) (.cons (.var 6) (.cons (.var 7) (.cons (.call "_law_members" 4 (.cons (.var 0) (.cons (.var 1) (.cons (.var 3) (.cons (.bin .sub (.var 4) (.int 1)) .nil))))) .nil)))))))
   .nil)
   .nil)
  (.cons (.ife (.cmp .Eq (.var 5) (.int 2))
   (.cons (.asg (.one 8) (.bor (.cons (.call "_law_some" 4 (.cons (.var 0) (.cons (.var 1) (.cons (.lst false (.cons (.int 0) (.cons (.int 1) (.cons (.int 2) (.cons (.neg (.int 3)) .nil))))) (.cons (.int 3) .nil))))) (.cons (.tup (.cons (.int 5) .nil)) .nil))))
   (.cons (.ret (.tup (.cons (.str "many") (.cons (.var 2) (.cons (.var 6) (.cons (.var 7) (.cons (.call "_law_pick" 3 (.cons (.var 0) (.cons (.var 1) (.cons (.str "km") .nil)))) (.cons (.var 8) (.cons (.call "_law_deeds" 3 (.cons (.var 0) (.cons (.var 1) (.cons (.int 2) .nil)))) .nil)))))))))
   .nil))
   .nil)
  (.cons (.ret (.tup (.cons (.str "try") (.cons (.var 2) (.cons (.var 6) (.cons (.var 7) (.cons (.call "_law_deeds" 3 (.cons (.var 0) (.cons (.var 1) (.cons (.int 3) .nil)))) .nil)))))))
  .nil)))))⟩

def k_members : Def := ⟨"_law_members", ["script", "town", "names", "left"], ["script", "town", "names", "left", "got", "name"],
  (.cons (.asg (.one 4) (.tup .nil))
  (.cons (.for_ (.one 5) (.seq (.slc false (.call "_law_mixed" 3 (.cons (.var 0) (.cons (.var 1) (.cons (.tup (.cons (.str "a") (.cons (.str "b") (.cons (.str "c") (.cons (.str "de") .nil))))) .nil)))) .none (.some (.call "_law_draw" 3 (.cons (.var 0) (.cons (.var 1) (.cons (.int 5) .nil)))))))
   (.cons (.asg (.one 4) (.bin (.add false) (.var 4) (.tup (.cons (.call "_law_member" 5 (.cons (.var 0) (.cons (.var 1) (.cons (.var 5) (.cons (.var 2) (.cons (.var 3) .nil)))))) .nil))))
   .nil))
  (.cons (.ret (.var 4))
  .nil)))⟩

def k_book : Def := ⟨"_law_book", ["script", "town"], ["script", "town", "stages", "names", "members", "one"],
  (.cons (.asg (.one 2) (.call "_law_stages" 2 (.cons (.var 0) (.cons (.var 1) .nil))))
  (.cons (.asg (.one 3) (.lc false [("one", 5)] (.one 5) (.seq (.var 2)) .none (.idx (.var 5) (.int 0))))
  (.cons (.asg (.one 4) (.call "_law_members" 4 (.cons (.var 0) (.cons (.var 1) (.cons (.var 3) (.cons (.int 2) .nil))))))
  (.cons (.ret (.tup (.cons (.var 2) (.cons (.bin (.add false) (.var 4) (.tup (.cons (.call "_law_member" 5 (.cons (.var 0) (.cons (.var 1) (.cons (.str "z") (.cons (.var 3) (.cons (.int 1) .nil)))))) .nil))) .nil))))
  .nil))))⟩

/-- a while with a number that falls -/
theorem loopW_inv {c : Lo → M Bool} {body : MS} {Q : Out → Sto → Prop} (I : Nat → Lo → Sto → Prop)
    (step : ∀ j ρ st, I j ρ st → wp (c ρ) st (fun b st1 => if b then ∃ j', j = j' + 1 ∧ wpS body ρ st1 (fun o st2 => match o with
      | .nx ρ2 => I j' ρ2 st2
      | .ct ρ2 => I j' ρ2 st2
      | .bk ρ2 => Q (.nx ρ2) st2
      | o => Q o st2) else Q (.nx ρ) st1) (fun c st1 => Q (.ex c ρ) st1)) :
    ∀ (f j : Nat) (ρ : Lo) (st : Sto), j < f → I j ρ st → wpS (loopW c body f) ρ st Q
  | 0, _, _, _, h, _ => by omega
  | f + 1, j, ρ, st, h, hi => by
    rw [loopW_stop]
    refine wp_mono (step j ρ st hi) (fun b st1 hb => ?_) (fun _ _ h => h)
    cases b with
    | false => exact hb
    | true =>
      rw [if_pos rfl] at hb ⊢
      obtain ⟨j', rfl, hb⟩ := hb
      refine wpS_mono hb fun o st2 ho => ?_
      cases o with
      | nx ρ2 => exact loopW_inv I step f j' ρ2 st2 (by omega) ho
      | ct ρ2 => exact loopW_inv I step f j' ρ2 st2 (by omega) ho
      | bk ρ2 => exact ho
      | rt d => exact ho
      | ex c ρ2 => exact ho
section
variable {T : Tab} {gc : Str → Option D} {n : Nat} {st : Sto} {P : D → Sto → Prop} {E : Str → Sto → Prop}
theorem tr_ref {i : Nat} {l : List D} (h : st[i]? = some (.lst l)) : truth st (.ref i) = some (!l.isEmpty) := by simp [truth, h]
theorem q_pop {i : Nat} {l : List D} {j : Int} {x : D} (h : st[i]? = some (.lst l)) (h0 : 0 ≤ j) (hx : l[j.toNat]? = some x) : wp (gPop (.ref i) [.int j]) st P E = P x (st.set i (.lst (l.eraseIdx j.toNat))) := by
  unfold wp gPop
  simp [h, h0, hx]
theorem set_same {i : Nat} {o : MO} : ∀ {st : Sto}, st[i]? = some o → st.set i o = st := by
  induction i with
  | zero => intro st h; cases st with
    | nil => rfl
    | cons a st => simp at h; subst h; rfl
  | succ i ih => intro st h; cases st with
    | nil => rfl
    | cons a st => simp at h; simp [ih h]
theorem rlts_mem {m : Nat} : ∀ {l : List D}, D.rlts m l = true → ∀ x ∈ l, x.rlt m = true
  | [], _, _, h => by cases h
  | y :: l, h, x, hx => by
    simp only [D.rlts, Bool.and_eq_true] at h
    rcases List.mem_cons.mp hx with rfl | hx
    · exact h.1
    · exact rlts_mem h.2 x hx
theorem rlts_of {m : Nat} : ∀ {l : List D}, (∀ x ∈ l, x.rlt m = true) → D.rlts m l = true
  | [], _ => rfl
  | y :: l, h => by
    simp only [D.rlts, Bool.and_eq_true]
    exact ⟨h y List.mem_cons_self, rlts_of fun x hx => h x (List.mem_cons_of_mem _ hx)⟩
theorem zeros_rlt (m k : Nat) : (MO.lst (zeros k)).rlt m = true := rlts_of fun x hx => by rw [List.eq_of_mem_replicate hx]; rfl
theorem wf_set {st : Sto} {i k : Nat} (h : Wf st) : ∀ o ∈ st.set i (.lst (zeros k)), o.rlt st.length = true := fun o ho => by
  rcases List.mem_or_eq_of_mem_set ho with z | rfl
  · exact h o z
  · exact zeros_rlt _ _
theorem Wf.tw {st : Sto} {i k : Nat} (h : Wf st) : Wf (st.set i (.lst (zeros k))) := fun o ho => by rw [List.length_set]; exact wf_set h o ho
theorem erase_perm : ∀ {l : List D} {i : Nat} (h : i < l.length), (l[i] :: l.eraseIdx i).Perm l
  | [], _, h => by simp at h
  | x :: l, 0, _ => by simp
  | x :: l, i + 1, h => by
    have h' : i < l.length := by simpa using h
    have := erase_perm h'
    simp only [List.getElem_cons_succ, List.eraseIdx_cons_succ]
    exact (List.Perm.swap _ _ _).trans (this.cons x)
theorem set2 {i : Nat} {st r : Sto} {a b : MO} (h : i < st.length) : (st.set i a ++ r).set i b = st.set i b ++ r := by
  rw [List.set_append_left _ _ (by simpa using h), List.set_set]
theorem mixed_at (hD : T.get "_law_draw" = some k_draw) (hM : T.get "_law_mixed" = some k_mixed) (hn : 1 < n) {ns : List Int} {i k : Nat} {l : List D} {row : D} (hrow : row = .tup l ∨ row = .lst l) (hr : ∀ m, D.rlts m l = true) (hi : st[i]? = some (.lst (zeros k))) (hw : Wf st) (hl : l.length ≤ 1000) (hk : k + l.length < 1000000) :
    wp (cfN T gc n "_law_mixed" [.scr ns, .ref i, row]) st (fun d st1 => ∃ l', d = .lst l' ∧ l'.Perm l ∧ st1 = st.set i (.lst (zeros (k + l.length)))) noX := by
  obtain ⟨n, rfl⟩ : ∃ k, n = k + 1 := ⟨n - 1, by omega⟩
  have hlt := tw_lt hi
  have hl2 : (l.length ≤ 16777216) = True := eq_true (by omega)
  rw [w_fn hM]
  have main : ∀ Q, (∀ got, got.Perm l → Q (.nx [some (.scr ns), some (.ref i), some row, some (.ref st.length), some (.ref (st.length + 1))]) (st.set i (.lst (zeros (k + l.length))) ++ [.lst [], .lst got])) →
      wpS (loopW (tst (cfN T gc n) gc (.var 3)) (exSs (cfN T gc n) gc (.cons (.expr (.bm .append (.var 4) (.cons (.bm .pop (.var 3) (.cons (.call "_law_draw" 3 (.cons (.var 0) (.cons (.var 1) (.cons (.blt .len (.var 3)) .nil)))) .nil)) .nil))) .nil)) 10000) [some (.scr ns), some (.ref i), some row, some (.ref st.length), some (.ref (st.length + 1))] (st ++ [.lst l, .lst []]) Q := by
    intro Q hQ
    refine loopW_inv (fun j ρ st2 => ∃ left got, j = left.length ∧ (left ++ got).Perm l ∧ st2 = st.set i (.lst (zeros (k + got.length))) ++ [.lst left, .lst got] ∧ ρ = [some (.scr ns), some (.ref i), some row, some (.ref st.length), some (.ref (st.length + 1))]) ?_ _ l.length _ _ (by omega) ?_
    · rintro j _ _ ⟨left, got, rfl, hp, rfl, rfl⟩
      have hlen : left.length + got.length = l.length := by rw [← hp.length_eq, List.length_append]
      have a1 : (st.set i (.lst (zeros (k + got.length))) ++ [.lst left, .lst got])[st.length]? = some (.lst left) := by simp
      simp [tr_ref a1]
      cases left with
      | nil =>
        simp at hp hlen ⊢
        rw [hlen]
        exact hQ got hp
      | cons y left =>
        simp at hlen
        have a2 : ∀ z, (st.set i (.lst (zeros z)) ++ [.lst (y :: left), .lst got])[st.length]? = some (.lst (y :: left)) := fun z => by simp
        have a3 : (st.set i (.lst (zeros (k + got.length))) ++ [.lst (y :: left), .lst got])[st.length + 1]? = some (.lst got) := by
          rw [List.getElem?_append_right (by simp)]; simp
        have a4 : (st.set i (.lst (zeros (k + got.length))) ++ [.lst (y :: left), .lst got])[i]? = some (.lst (zeros (k + got.length))) := by
          rw [List.getElem?_append_left (by simpa using hlt)]; exact List.getElem?_set_self hlt
        simp [bt_ref a3, bt_ref a1, q_len_ref a1]
        refine wp_go (draw_at hD (by omega) (by omega) a4 (by omega)) ?_
        rintro _ _ ⟨j, h0, h1, rfl, rfl⟩
        rw [set2 hlt]
        have hj : j.toNat < (y :: left).length := by simp; omega
        have hx : (y :: left)[j.toNat]? = some (y :: left)[j.toNat] := List.getElem?_eq_getElem hj
        simp [q_pop (a2 _) h0 hx]
        have pm := erase_perm hj
        have le : ((y :: left).eraseIdx j.toNat).length = left.length := by rw [List.length_eraseIdx_of_lt hj]; simp
        generalize (y :: left)[j.toNat] = x at pm
        generalize (y :: left).eraseIdx j.toNat = lf at pm le
        have a5 : (st.set i (.lst (zeros (k + got.length + 1))) ++ [.lst lf, .lst got])[st.length + 1]? = some (.lst got) := by
          rw [List.getElem?_append_right (by simp)]; simp
        rw [q_app a5 (by omega)]
        refine ⟨lf, le.symm, got ++ [x], ?_, ?_⟩
        · refine List.Perm.trans ?_ hp
          have : (lf ++ (got ++ [x])).Perm ((x :: lf) ++ got) := by
            rw [← List.append_assoc]
            exact (List.perm_append_singleton x (lf ++ got))
          exact this.trans (pm.append_right got)
        · rw [List.set_append_right _ _ (by simp)]
          simp [Nat.add_assoc]
    · exact ⟨l, [], rfl, by simp, by simp [set_same hi], rfl⟩
  have fin : ∀ got, got.Perm l → fnQ st (fun d st1 => ∃ l', d = .lst l' ∧ l'.Perm l ∧ st1 = st.set i (.lst (zeros (k + l.length)))) noX (.rt (.ref (st.length + 1))) (st.set i (.lst (zeros (k + l.length))) ++ [.lst [], .lst got]) := by
    intro got hp
    have ht : List.take st.length (st.set i (.lst (zeros (k + l.length))) ++ [.lst [], .lst got]) = st.set i (.lst (zeros (k + l.length))) := by
      rw [List.take_append_of_le_length (by simp), List.take_of_length_le (by simp)]
    rw [fnQ_list (l := got) (by omega) (by rw [List.getElem?_append_right (by simp)]; simp) ?_ (.inr ?_), ht]
    · exact ⟨got, rfl, hp, rfl⟩
    · exact rlts_of fun x hx => rlts_mem (hr _) x (hp.mem_iff.mp hx)
    · rw [ht]
      exact fun o ho => wf_set hw o ho
  rcases hrow with rfl | rfl
  · simp [k_mixed, hl2]
    refine main _ fun got hp => ?_
    simp
    exact fin got hp
  · simp [k_mixed, hl2]
    refine main _ fun got hp => ?_
    simp
    exact fin got hp
theorem pick_seq (hT : T.get "_law_draw" = some k_draw) (hP : T.get "_law_pick" = some k_pick) (hn : 1 < n) {ns : List Int} {i k : Nat} {l : List D} {row : D} (hrow : row = .tup l ∨ row = .lst l) (hm : 0 < l.length) (hi : st[i]? = some (.lst (zeros k))) (hk : k < 1000000) (hr : ∀ x ∈ l, ∀ i, x ≠ .ref i) :
    wp (cfN T gc n "_law_pick" [.scr ns, .ref i, row]) st (fun d st1 => d ∈ l ∧ st1 = st.set i (.lst (zeros (k + 1)))) noX := by
  rcases hrow with rfl | rfl
  · obtain ⟨n, rfl⟩ : ∃ k, n = k + 1 := ⟨n - 1, by omega⟩
    rw [w_fn hP]
    simp [k_pick]
    refine wp_go (draw_at hT (by omega) (by omega) hi hk) ?_
    rintro _ _ ⟨j, h0, h1, rfl, rfl⟩
    obtain ⟨x, hx, hx2⟩ := at_of h0 h1
    simp [hx2]
    rw [fnQ_rt (by simp) (fun i e => absurd e (hr x hx i))]
    exact ⟨hx, rfl⟩
  · exact pick_at hT hP hn hm hi hk hr
/-- a sign of a text -/
theorem pick_str (hT : T.get "_law_draw" = some k_draw) (hP : T.get "_law_pick" = some k_pick) (hn : 1 < n) {ns : List Int} {i k : Nat} {z : Str} (hm : 0 < z.cps.toList.length) (hi : st[i]? = some (.lst (zeros k))) (hk : k < 1000000) :
    wp (cfN T gc n "_law_pick" [.scr ns, .ref i, .str z]) st (fun d st1 => (∃ c, c ∈ z.cps.toList ∧ d = .str ⟨#[c]⟩) ∧ st1 = st.set i (.lst (zeros (k + 1)))) noX := by
  obtain ⟨n, rfl⟩ : ∃ k, n = k + 1 := ⟨n - 1, by omega⟩
  have e : z.length = z.cps.toList.length := by simp [Str.length]
  rw [w_fn hP]
  simp [k_pick, e]
  refine wp_go (draw_at hT (by omega) (by simpa using hm) hi hk) ?_
  rintro _ _ ⟨j, h0, h1, rfl, rfl⟩
  obtain ⟨x, hx, hx2⟩ := at_of (l := z.cps.toList) h0 (by simpa using h1)
  simp [idxT, hx2]
  rw [fnQ_rt (by simp) (fun i e => by cases e)]
  exact ⟨⟨x, by simpa using hx, rfl⟩, rfl⟩
/-- _law_some: some of a row, each once -/
theorem some_at (hD : T.get "_law_draw" = some k_draw) (hP : T.get "_law_pick" = some k_pick) (hS : T.get "_law_some" = some k_some) (hn : 2 < n) {α : Type} [DecidableEq α] (f : α → D) (hf : ∀ (x : α) (l : List α), inL (f x) (l.map f) = some (decide (x ∈ l))) (hnr : ∀ x i, f x ≠ .ref i)
    {ns : List Int} {i k : Nat} {l : List α} {row : D} {top : Nat} (hrow : row = .tup (l.map f) ∨ row = .lst (l.map f)) (hi : st[i]? = some (.lst (zeros k))) (ht : top ≤ 1000) (hk : k + top + 1 < 1000000) :
    wp (cfN T gc n "_law_some" [.scr ns, .ref i, row, .int top]) st (fun d st1 => ∃ r : List α, ∃ k', d = .tup (r.map f) ∧ r.Nodup ∧ (∀ x ∈ r, x ∈ l) ∧ r.length ≤ top ∧ k' ≤ k + top + 1 ∧ st1 = st.set i (.lst (zeros k'))) noX := by
  obtain ⟨n, rfl⟩ : ∃ k, n = k + 1 := ⟨n - 1, by omega⟩
  have hlt := tw_lt hi
  rw [w_fn hS]
  simp [k_some]
  refine wp_go (draw_at hD (by omega) (by omega) hi (by omega)) ?_
  rintro _ _ ⟨j, h0, h1, rfl, rfl⟩
  have hlen : ∀ st2 (P : D → Sto → Prop) E, wp (gLen [row]) st2 P E = P (.int l.length) st2 := by
    intro st2 P E
    rcases hrow with rfl | rfl <;> simp
  obtain ⟨m, hm, hmt, hmz⟩ : ∃ m : Nat, (m : Int) = j * (if decide (0 < l.length) = true then 1 else 0) ∧ m ≤ top ∧ (0 < m → 0 < l.length) := by
    by_cases h : 0 < l.length
    · exact ⟨j.toNat, by simp [h]; omega, by omega, fun _ => h⟩
    · exact ⟨0, by simp [h], by omega, fun z => by omega⟩
  have e1 : ∀ st2 (P : D → Sto → Prop) E, wp (opMul false (.int j) (.int (if decide (0 < l.length) = true then 1 else 0))) st2 P E = P (.int m) st2 := by
    intro st2 P E
    rw [q_muli (.inl (by omega)), hm]
  rw [hlen, q_oGt, show (decide ((0 : Int) < (l.length : Nat))) = decide (0 < l.length) from by simp, q_int_bl, e1, q_rng m (by omega), lk_some]
  refine loop_inv (fun ds ρ st2 => ds.length ≤ m ∧ ∃ r : List α, ∃ x5 x6, r.Nodup ∧ (∀ x ∈ r, x ∈ l) ∧ r.length ≤ m - ds.length ∧ st2 = st.set i (.lst (zeros (k + 1 + (m - ds.length)))) ∧ ρ = [some (.scr ns), some (.ref i), some row, some (.int top), some (.tup (r.map f)), x5, x6]) ?_ ?_ ?_ _ _ _ ?_
  · intro ds ρ st2 _
    trivial
  · rintro d ds _ _ ⟨hd, r, x5, x6, r1, r2, r3, rfl, rfl⟩
    refine ⟨_, rfl, ?_⟩
    simp at hd r3
    have hl0 := hmz (by omega)
    simp
    refine wp_go (pick_seq hD hP (by omega) hrow (by simpa using hl0) (tw_set hi _) (by omega) (fun x hx i e => ?_)) ?_
    · obtain ⟨a, _, rfl⟩ := List.mem_map.mp hx
      exact hnr a i e
    · rintro d2 _ ⟨hd2, rfl⟩
      obtain ⟨a, ha, rfl⟩ := List.mem_map.mp hd2
      have hin : ∀ st2, inT st2 (f a) (.tup (r.map f)) = some (decide (a ∈ r)) := fun st2 => hf a r
      simp [hin]
      have hkk : k + 1 + (m - (ds.length + 1)) + 1 = k + 1 + (m - ds.length) := by omega
      rw [hkk]
      by_cases har : a ∈ r
      · have e2 : ∀ st2 (P : D → Sto → Prop) E, wp (opMul false (.tup [f a]) (.int (if a ∈ r then 0 else 1))) st2 P E = P (.tup []) st2 := by
          intro st2 P E
          have := q_mul_tup (st := st2) (P := P) (E := E) false false [f a]
          simpa [har] using this
        rw [e2]
        have hrl : r.length ≤ 16777216 := by omega
        simp [hrl]
        exact ⟨by omega, r, r1, r2, by omega, rfl⟩
      · have e2 : ∀ st2 (P : D → Sto → Prop) E, wp (opMul false (.tup [f a]) (.int (if a ∈ r then 0 else 1))) st2 P E = P (.tup [f a]) st2 := by
          intro st2 P E
          have := q_mul_tup (st := st2) (P := P) (E := E) false true [f a]
          simpa [har] using this
        rw [e2]
        have hrl : r.length ≤ 16777215 := by omega
        simp [hrl]
        refine ⟨by omega, r ++ [a], ?_, ?_, by simp; omega, by simp⟩
        · rw [List.nodup_append]
          exact ⟨r1, by simp, fun x hx y hy => by simp at hy; subst hy; rintro rfl; exact har hx⟩
        · intro x hx
          rcases List.mem_append.mp hx with h | h
          · exact r2 x h
          · simp at h; subst h; exact ha
  · rintro _ _ ⟨_, r, x5, x6, r1, r2, r3, rfl, rfl⟩
    simp at r3
    simp
    rw [fnQ_rt (by simp) (fun i e => by cases e)]
    exact ⟨r, rfl, r1, r2, by omega, _, by omega, rfl⟩
  · refine ⟨by simp [rngL], [], none, none, List.nodup_nil, (fun x h => nomatch h), by simp, ?_, rfl⟩
    simp [rngL]
end
end TB
set_option Elab.async false
set_option linter.all false
set_option maxRecDepth 100000
set_option maxHeartbeats 4000000
/-! TB20: how the laws make deeds, stages, members -/
namespace TB
open PySem PySem.Spec L2
section
variable {T : Tab} {gc : Str → Option D} {n : Nat} {st : Sto} {P : D → Sto → Prop} {E : Str → Sto → Prop}
def Deed.ok : Deed → Prop
  | .set k n => (k = "k" ∨ k = "m" ∨ k = "n") ∧ -3 ≤ n ∧ n ≤ 5
  | .add k n => (k = "k" ∨ k = "m" ∨ k = "n") ∧ -3 ≤ n ∧ n ≤ 5
  | .ask k n => (k = "k" ∨ k = "m" ∨ k = "n") ∧ -3 ≤ n ∧ n ≤ 5
  | .say w => w = "a" ∨ w = "bc" ∨ w = "d"
  | .fail => True
  | .leave => True
structure LawT (T : Tab) : Prop where
  draw : T.get "_law_draw" = some k_draw
  pick : T.get "_law_pick" = some k_pick
  mixed : T.get "_law_mixed" = some k_mixed
  some_ : T.get "_law_some" = some k_some
  deeds : T.get "_law_deeds" = some k_deeds
  stages : T.get "_law_stages" = some k_stages
  member : T.get "_law_member" = some k_member
  members : T.get "_law_members" = some k_members
  book : T.get "_law_book" = some k_book
theorem deeds_at (L : LawT T) (hn : 2 < n) {ns : List Int} {i k top : Nat} (hi : st[i]? = some (.lst (zeros k))) (ht : top ≤ 100) (hk : k + 4 * top + 1 < 1000000) :
    wp (cfN T gc n "_law_deeds" [.scr ns, .ref i, .int top]) st (fun d st1 => ∃ ds : List Deed, ∃ k', d = dsD ds ∧ ds.length ≤ top ∧ (∀ x ∈ ds, x.ok) ∧ k' ≤ k + 4 * top + 1 ∧ st1 = st.set i (.lst (zeros k'))) noX := by
  obtain ⟨n, rfl⟩ : ∃ k, n = k + 1 := ⟨n - 1, by omega⟩
  have hlt := tw_lt hi
  rw [w_fn L.deeds]
  simp [k_deeds]
  refine wp_go (draw_at L.draw (by omega) (by omega) hi (by omega)) ?_
  rintro _ _ ⟨j, h0, h1, rfl, rfl⟩
  obtain ⟨m, rfl⟩ : ∃ m : Nat, j = m := ⟨j.toNat, by omega⟩
  rw [q_rng m (by omega), lk_some]
  refine loop_inv (fun ds ρ st2 => ds.length ≤ m ∧ ∃ r : List Deed, ∃ kk x4 x5 x6 x7, (∀ x ∈ r, x.ok) ∧ r.length ≤ m - ds.length ∧ kk ≤ k + 1 + 4 * (m - ds.length) ∧ st2 = st.set i (.lst (zeros kk)) ∧ ρ = [some (.scr ns), some (.ref i), some (.int top), some (dsD r), x4, x5, x6, x7]) ?_ ?_ ?_ _ _ _ ?_
  · intro ds ρ st2 _
    trivial
  · rintro d ds _ _ ⟨hd, r, kk, x4, x5, x6, x7, r2, r3, r4, rfl, rfl⟩
    refine ⟨_, rfl, ?_⟩
    simp at hd r3 r4
    have hkmn : ("kmn" : Str).cps.toList = [107, 109, 110] := by decide +kernel
    simp
    refine wp_go (pick_str L.draw L.pick (by omega) (by rw [hkmn]; simp) (tw_set hi _) (by omega)) ?_
    rintro _ _ ⟨⟨c, hc, rfl⟩, rfl⟩
    have hkey : (⟨#[c]⟩ : Str) = "k" ∨ (⟨#[c]⟩ : Str) = "m" ∨ (⟨#[c]⟩ : Str) = "n" := by
      rw [hkmn] at hc
      simp at hc
      rcases hc with rfl | rfl | rfl
      · exact .inl (by decide +kernel)
      · exact .inr (.inl (by decide +kernel))
      · exact .inr (.inr (by decide +kernel))
    generalize (⟨#[c]⟩ : Str) = key at hkey
    simp
    refine wp_go (draw_at L.draw (by omega) (by omega) (tw_set hi _) (by omega)) ?_
    rintro _ _ ⟨j2, h02, h12, rfl, rfl⟩
    simp
    refine wp_go (pick_at L.draw L.pick (by omega) (by simp) (tw_set hi _) (by omega) (by simp)) ?_
    rintro w _ ⟨hw, rfl⟩
    simp
    refine wp_go (pick_at L.draw L.pick (by omega) (by simp) (tw_set hi _) (by omega) (by simp)) ?_
    rintro q _ ⟨hq, rfl⟩
    simp at hw hq
    have hx : ∃ x : Deed, x.ok ∧ ∀ st2, idxT st2 (D.lst
        [D.tup [D.str (Str.ofString "set"), D.str key, D.int (j2 - 1)],
          D.tup [D.str (Str.ofString "add"), D.str key, D.int (j2 - 1)],
          D.tup [D.str (Str.ofString "add"), D.str key, D.int (j2 - 1)],
          D.tup [D.str (Str.ofString "ask"), D.str key, D.int (j2 - 1)], D.tup [D.str (Str.ofString "say"), w],
          D.tup [D.str (Str.ofString "fail")], D.tup [D.str (Str.ofString "leave")]]) q = some x.d := by
      obtain ⟨w', rfl, hw'⟩ : ∃ w', w = .str w' ∧ (w' = "a" ∨ w' = "bc" ∨ w' = "d") := by
        rcases hw with rfl | rfl | rfl
        · exact ⟨_, rfl, .inl rfl⟩
        · exact ⟨_, rfl, .inr (.inl rfl)⟩
        · exact ⟨_, rfl, .inr (.inr rfl)⟩
      have hs : (Deed.set key (j2 - 1)).ok := ⟨hkey, by omega, by omega⟩
      have ha : (Deed.add key (j2 - 1)).ok := ⟨hkey, by omega, by omega⟩
      have hk' : (Deed.ask key (j2 - 1)).ok := ⟨hkey, by omega, by omega⟩
      have hy : (Deed.say w').ok := hw'
      rcases hq with rfl | rfl | rfl | rfl | rfl | rfl | rfl | rfl | rfl
      · exact ⟨_, hs, fun _ => by rw [q_ix_lst, at0]; rfl⟩
      · exact ⟨_, ha, fun _ => by rw [q_ix_lst, at1]; rfl⟩
      · exact ⟨_, ha, fun _ => by rw [q_ix_lst, at2]; rfl⟩
      · exact ⟨_, hk', fun _ => by rw [q_ix_lst, at3]; rfl⟩
      · exact ⟨_, hy, fun _ => by rw [q_ix_lst, at4]; rfl⟩
      · exact ⟨_, hs, fun _ => by rw [q_ix_lst, at0]; rfl⟩
      · exact ⟨_, ha, fun _ => by rw [q_ix_lst, at1]; rfl⟩
      · exact ⟨.fail, trivial, fun _ => by rw [q_ix_lst, at5]; rfl⟩
      · exact ⟨.leave, trivial, fun _ => by rw [q_ix_lst, at6]; rfl⟩
    obtain ⟨x, hx1, hx2⟩ := hx
    rw [hx2, lk_some]
    have hrl : (r.length ≤ 16777215) = True := eq_true (by omega)
    simp [dsD, hrl]
    refine ⟨by omega, r ++ [x], ?_, by simp; omega, kk + 1 + 1 + 1 + 1, by omega, rfl, by simp⟩
    intro y hy
    rcases List.mem_append.mp hy with h | h
    · exact r2 y h
    · simp at h; subst h; exact hx1
  · rintro _ _ ⟨_, r, kk, x4, x5, x6, x7, r2, r3, r4, rfl, rfl⟩
    simp at r3 r4
    simp
    rw [fnQ_rt (by simp) (fun i e => by cases e)]
    exact ⟨r, rfl, by omega, r2, kk, by omega, rfl⟩
  · exact ⟨by simp [rngL], [], k + 1, none, none, none, none, (fun x h => nomatch h), by simp, by simp [rngL], rfl, rfl⟩
end
end TB
set_option Elab.async false
set_option linter.all false
set_option maxRecDepth 100000
set_option maxHeartbeats 4000000
/-! TB21: how the laws make stages -/
namespace TB
open PySem PySem.Spec L2
mutual
theorem rlt_mono {n m : Nat} (h : n ≤ m) : ∀ d : D, d.rlt n = true → d.rlt m = true
  | .tup l, e => rlts_mono h l e
  | .lst l, e => rlts_mono h l e
  | .ref i, e => decide_eq_true (Nat.lt_of_lt_of_le (of_decide_eq_true e) h)
  | .non, _ => rfl
  | .bl _, _ => rfl
  | .int _, _ => rfl
  | .str _, _ => rfl
  | .fn _, _ => rfl
  | .scr _, _ => rfl
theorem rlts_mono {n m : Nat} (h : n ≤ m) : ∀ l : List D, D.rlts n l = true → D.rlts m l = true
  | [], _ => rfl
  | d :: l, e => by
    simp only [D.rlts, Bool.and_eq_true] at e ⊢
    exact ⟨rlt_mono h d e.1, rlts_mono h l e.2⟩
end
theorem MO.rlt_mono {n m : Nat} (h : n ≤ m) : ∀ o : MO, o.rlt n = true → o.rlt m = true
  | .lst l, e => rlts_mono h l e
  | .dct kvs, e => rlts_mono h _ e
  | .ins _ fs, e => rlts_mono h _ e
theorem Wf.push {st : Sto} {o : MO} (h : Wf st) (ho : o.rlt (st.length + 1) = true) : Wf (st ++ [o]) := by
  intro x hx
  rw [List.length_append]
  rcases List.mem_append.mp hx with z | z
  · exact MO.rlt_mono (Nat.le_add_right _ _) x (h x z)
  · simp at z; subst z; exact ho
def farN (x : Str) : Int := if x = "all" then 2 else if x = "group" then 1 else 0
def reachOk (x : Str) : Prop := x = "each" ∨ x = "group" ∨ x = "all"
/-- a stage behind others -/
structure okStage (pre : List Stage) (s : Stage) : Prop where
  reach : reachOk s.reach
  nd : s.wants.Nodup
  few : s.wants.length ≤ 2
  wants : ∀ w ∈ s.wants, ∃ p ∈ pre, p.name = w ∧ farN s.reach ≤ farN p.reach
  ups : s.ups.length ≤ 2 ∧ ∀ x ∈ s.ups, x.ok
  downs : s.downs.length ≤ 2 ∧ ∀ x ∈ s.downs, x.ok
def okStages (ss : List Stage) : Prop := ∀ pre s post, ss = pre ++ s :: post → okStage pre s
theorem okStages.snoc {ss : List Stage} {s : Stage} (h : okStages ss) (hs : okStage ss s) : okStages (ss ++ [s]) := by
  intro pre x post e
  rcases List.eq_nil_or_concat post with rfl | ⟨post', y, rfl⟩
  · have := List.append_inj' e rfl
    cases this.2
    rw [← this.1]; exact hs
  · rw [List.concat_eq_append, ← List.cons_append, ← List.append_assoc] at e
    have := List.append_inj' e rfl
    exact h pre x post' this.1
def stNames : List Str := ["p", "q", "r", "s", "tu", "v"]
def farD : List (Key × D) := [(.inr "each", .int 0), (.inr "group", .int 1), (.inr "all", .int 2)]
theorem far_eq : mergeG [] [(.inr (Str.ofString "each"), D.int 0), (.inr (Str.ofString "group"), .int 1), (.inr (Str.ofString "all"), .int 2)] = farD := by
  simp [mergeG, putG, farD]
theorem far_val {x : Str} (h : reachOk x) : valG farD (.inr x) = some (.int (farN x)) := by
  rcases h with rfl | rfl | rfl <;> simp [valG, farD, farN]
def strOf : D → Str
  | .str x => x
  | _ => ""
theorem perm_str {l' : List D} {l : List Str} (h : l'.Perm (l.map .str)) : ∃ r : List Str, l' = r.map .str ∧ r.Perm l := by
  refine ⟨l'.map strOf, ?_, ?_⟩
  · rw [List.map_map]
    have : ∀ x ∈ l', (D.str ∘ strOf) x = x := by
      intro x hx
      obtain ⟨y, _, rfl⟩ := List.mem_map.mp (h.mem_iff.mp hx)
      rfl
    exact (List.map_congr_left this |>.trans (List.map_id' l')).symm
  · have := h.map strOf
    rw [List.map_map] at this
    have e : List.map (strOf ∘ D.str) l = l := by
      conv => rhs; rw [← List.map_id l]
      rfl
    rwa [e] at this
theorem cut_take {τ : Type} (l : List τ) {j : Int} (h : 0 ≤ j) : cutG l none (some j) = l.take j.toNat := by
  unfold cutG
  rw [HT.sIx_none, List.drop_zero, Nat.sub_zero]
  show l.take (if j < 0 then (j + (l.length : Int)).toNat else min j.toNat l.length) = _
  rw [if_neg (by omega), ← List.take_eq_take_min]
theorem set1 {i : Nat} {st r : Sto} {b : MO} (h : i < st.length) : (st ++ r).set i b = st.set i b ++ r := by
  rw [List.set_append_left _ _ h]
def dReach : D → Str
  | .tup [_, .str r, _, _, _] => r
  | _ => ""
def dName : D → Str
  | .tup [.str x, _, _, _, _] => x
  | _ => ""
theorem filter_stage (p : Stage → Bool) (c : D → Bool) (h : ∀ s : Stage, c s.d = p s) : ∀ ss : List Stage, ((ss.map Stage.d).filter c).map (fun d => D.str (dName d)) = ((ss.filter p).map Stage.name).map .str
  | [] => rfl
  | s :: ss => by
    rw [List.map_cons]
    by_cases e : p s = true
    · rw [List.filter_cons_of_pos (by rw [h]; exact e), List.filter_cons_of_pos e, List.map_cons, List.map_cons, List.map_cons, filter_stage p c h ss]; rfl
    · rw [List.filter_cons_of_neg (by rw [h]; exact e), List.filter_cons_of_neg e, filter_stage p c h ss]
theorem okStages.mem {ss : List Stage} (h : okStages ss) {s : Stage} (hs : s ∈ ss) : ∃ pre, okStage pre s ∧ ∀ x ∈ pre, x ∈ ss := by
  obtain ⟨pre, post, rfl⟩ := List.append_of_mem hs
  exact ⟨pre, h pre s post rfl, fun x hx => List.mem_append_left _ hx⟩
section
variable {T : Tab} {gc : Str → Option D} {n : Nat} {st : Sto} {P : D → Sto → Prop} {E : Str → Sto → Prop}
theorem stage_rlt (m : Nat) (s : Stage) : s.d.rlt m = true := by simp [Stage.d, D.rlt, D.rlts, rlt_sD, rlt_dsD]
theorem stages_at (L : LawT T) (hn : 5 < n) {ns : List Int} {i k : Nat} (hi : st[i]? = some (.lst (zeros k))) (hw : Wf st) (hk : k + 1000 < 1000000) :
    wp (cfN T gc n "_law_stages" [.scr ns, .ref i]) st (fun d st1 => ∃ ss : List Stage, ∃ k', d = .tup (ss.map Stage.d) ∧ okStages ss ∧ (ss.map Stage.name).Nodup ∧ (∀ s ∈ ss, s.name ∈ stNames) ∧ ss.length ≤ 6 ∧ k' ≤ k + 1000 ∧ st1 = st.set i (.lst (zeros k'))) noX := by
  obtain ⟨n, rfl⟩ : ∃ k, n = k + 1 := ⟨n - 1, by omega⟩
  have hlt := tw_lt hi
  rw [w_fn L.stages]
  simp [k_stages, far_eq]
  have hi2 : (st ++ [.dct farD])[i]? = some (.lst (zeros k)) := by rw [List.getElem?_append_left hlt]; exact hi
  have hw2 : Wf (st ++ [.dct farD]) := hw.push rfl
  refine wp_go (mixed_at L.draw L.mixed (by omega) (l := stNames.map .str) (.inl rfl) (fun m => rlt_str m _) hi2 hw2 (by decide) (by simp [stNames]; omega)) ?_
  rintro _ _ ⟨l', rfl, hp, rfl⟩
  obtain ⟨nm, rfl, hpn⟩ := perm_str hp
  have s6 : stNames.length = 6 := rfl
  have tw3 : ∀ z, (st.set i (.lst (zeros z)) ++ [.dct farD])[i]? = some (.lst (zeros z)) := fun z => by
    rw [List.getElem?_append_left (by simpa using hlt)]; exact List.getElem?_set_self hlt
  rw [set1 hlt]
  simp [s6]
  refine wp_go (draw_at L.draw (by omega) (by omega) (tw3 _) (by omega)) ?_
  rintro _ _ ⟨j, h0, h1, rfl, rfl⟩
  have cl : (cutG (nm.map D.str) none (some j)).length ≤ 16777216 := by
    refine Nat.le_trans (show (cutG (nm.map D.str) none (some j)).length ≤ (nm.map D.str).length from ?_) ?_
    · unfold cutG; rw [List.length_take, List.length_drop]; omega
    · rw [List.length_map, hpn.length_eq, s6]; omega
  rw [set2 hlt]
  simp [cl]
  rw [cut_take _ h0, ← List.map_take]
  have hsub : (nm.take j.toNat).Nodup ∧ (∀ x ∈ nm.take j.toNat, x ∈ stNames) ∧ (nm.take j.toNat).length ≤ 6 := by
    refine ⟨(hpn.nodup_iff.mpr (by decide +kernel)).sublist (List.take_sublist _ _), fun x hx => hpn.mem_iff.mp (List.mem_of_mem_take hx), ?_⟩
    rw [List.length_take, hpn.length_eq, s6]; omega
  generalize nm.take j.toNat = nl at hsub
  obtain ⟨u1, u2, u3⟩ := hsub
  refine loop_inv (fun ds ρ st2 => ∃ (ss : List Stage) (rest : List Str) (kk : Nat) (x4 x5 x6 x7 x8 x9 : Option D), nl = ss.map Stage.name ++ rest ∧ ds = rest.map .str ∧ okStages ss ∧ kk ≤ k + 7 + 50 * ss.length ∧ st2 = st.set i (.lst (zeros kk)) ++ [.dct farD] ∧ ρ = [some (.scr ns), some (.ref i), some (.tup (ss.map Stage.d)), some (.ref st.length), x4, x5, x6, x7, x8, x9]) ?_ ?_ ?_ _ _ _ ?_
  · intro ds ρ st2 _
    trivial
  · rintro d ds _ _ ⟨ss, rest, kk, x4, x5, x6, x7, x8, x9, e1, e2, ok, hkk, rfl, rfl⟩
    cases rest with
    | nil => cases e2
    | cons name rest =>
      simp only [List.map_cons, List.cons.injEq] at e2
      obtain ⟨rfl, rfl⟩ := e2
      refine ⟨_, rfl, ?_⟩
      have hss : ss.length ≤ 5 := by rw [e1] at u3; simp at u3; omega
      simp
      refine wp_go (pick_at L.draw L.pick (by omega) (by simp) (tw3 _) (by omega) (by simp)) ?_
      rintro rd _ ⟨hrd, rfl⟩
      obtain ⟨reach, rfl, hreach⟩ : ∃ r, rd = .str r ∧ reachOk r := by
        simp at hrd
        rcases hrd with rfl | rfl | rfl
        · exact ⟨_, rfl, .inl rfl⟩
        · exact ⟨_, rfl, .inr (.inl rfl)⟩
        · exact ⟨_, rfl, .inr (.inr rfl)⟩
      rw [set2 hlt]
      rw [lc_pure (fun d => [some (.scr ns), some (.ref i), some (.tup (ss.map Stage.d)), some (.ref st.length), some (.str name), some (.str reach), x6, x7, x8, some d]) (fun d => decide (farN reach ≤ farN (dReach d))) (fun d => .str (dName d)) (by trivial) _ _ (fun d _ => rfl)]
      · rw [filter_stage (fun s => decide (farN reach ≤ farN s.reach)) _ (fun s => rfl)]
        have hfl : ((((ss.filter fun s => decide (farN reach ≤ farN s.reach)).map Stage.name).map D.str).length ≤ 16777216) = True := eq_true (by
          rw [List.length_map, List.length_map]
          have := List.length_filter_le (fun s => decide (farN reach ≤ farN s.reach)) ss
          omega)
        rw [hfl, true_and]
        refine wp_go (some_at L.draw L.pick L.some_ (by omega) (f := D.str) inL_strs (fun x i e => by cases e) (top := 2) (.inr rfl) (tw3 _) (by omega) (by omega)) ?_
        rintro _ _ ⟨wr, k1, rfl, w1, w2, w3, hk1, rfl⟩
        rw [set2 hlt]
        refine wp_go (deeds_at L (by omega) (top := 2) (tw3 _) (by omega) (by omega)) ?_
        rintro _ _ ⟨up, k2, rfl, p1, p2, hk2, rfl⟩
        rw [set2 hlt]
        refine wp_go (deeds_at L (by omega) (top := 2) (tw3 _) (by omega) (by omega)) ?_
        rintro _ _ ⟨dn, k3, rfl, q1, q2, hk3, rfl⟩
        rw [set2 hlt]
        refine ⟨by omega, ss ++ [⟨name, reach, wr, up, dn⟩], rest, ?_, rfl, ok.snoc ⟨hreach, w1, w3, ?_, ⟨p1, p2⟩, ⟨q1, q2⟩⟩, k3, ?_, rfl, ?_⟩
        · rw [e1]; simp
        · intro x hx
          obtain ⟨p, hp, rfl⟩ := List.mem_map.mp (w2 x hx)
          rw [List.mem_filter] at hp
          exact ⟨p, hp.1, rfl, of_decide_eq_true hp.2⟩
        · simp; omega
        · simp [Stage.d, sD]
      · intro d hd P
        obtain ⟨s, hs, rfl⟩ := List.mem_map.mp hd
        obtain ⟨pre, os, _⟩ := ok.mem hs
        simp [Stage.d, ix_dct (st := st.set i (.lst (zeros (kk + 1))) ++ [.dct farD]) (n := st.length) (kvs := farD) (by simp), far_val hreach, far_val os.reach, dReach]
        exact Iff.of_eq (by congr)
      · intro d hd _ P
        obtain ⟨s, hs, rfl⟩ := List.mem_map.mp hd
        simp [Stage.d, dName]
  · rintro _ _ ⟨ss, rest, kk, x4, x5, x6, x7, x8, x9, e1, e2, ok, hkk, rfl, rfl⟩
    cases rest with
    | cons _ _ => cases e2
    | nil =>
      rw [List.append_nil] at e1
      subst e1
      simp at u3
      simp
      have ht : List.take st.length (st.set i (.lst (zeros kk)) ++ [.dct farD]) = st.set i (.lst (zeros kk)) := by
        rw [List.take_append_of_le_length (by simp), List.take_of_length_le (by simp)]
      have hrl : (D.tup (ss.map Stage.d)).rlt st.length = true := rlts_of fun x hx => by obtain ⟨s, _, rfl⟩ := List.mem_map.mp hx; exact stage_rlt _ s
      rw [fnQ_drop (d := .tup (ss.map Stage.d)) (fun i e => by cases e) hrl (.inr (by rw [ht]; exact wf_set hw)), ht]
      exact ⟨ss, rfl, ok, u1, fun s hs => u2 _ (List.mem_map_of_mem hs), u3, kk, by omega, rfl⟩
  · exact ⟨[], nl, k + 7, none, none, none, none, none, none, rfl, rfl, fun pre s post e => (by simp at e), by simp, rfl, rfl⟩
end
end TB
set_option Elab.async false
set_option linter.all false
set_option maxRecDepth 100000
set_option maxHeartbeats 4000000
/-! TB22: how the laws make members and books -/
namespace TB
open PySem PySem.Spec L2
def mkL3 : List Str := ["x", "y", "slow"]
def nmL : List Str := ["a", "b", "c", "de"]
def nmZ : List Str := ["a", "b", "c", "de", "z"]
theorem nm_nmZ : ∀ x ∈ nmL, x ∈ nmZ := by
  intro x hx
  simp [nmL] at hx
  simp [nmZ]
  rcases hx with h | h | h | h <;> simp [h]
def nuL : List Int := [0, 1, 2, -3]
def Mem.name : Mem → Str
  | .try_ n _ _ _ => n
  | .many n _ _ _ _ _ => n
  | .group n _ _ _ => n
structure okMW (sn m w : List Str) : Prop where
  m1 : m.Nodup
  m2 : ∀ x ∈ m, x ∈ mkL3
  m3 : m.length ≤ 2
  w1 : w.Nodup
  w2 : ∀ x ∈ w, x ∈ sn
  w3 : w.length ≤ 2
def okDs (t : Nat) (ds : List Deed) : Prop := ds.length ≤ t ∧ ∀ x ∈ ds, x.ok
def okNums (ns : List Int) : Prop := ns ≠ [] ∧ ns.Nodup ∧ (∀ i ∈ ns, i ∈ nuL ++ [5]) ∧ ns.length ≤ 3
mutual
def Mem.ok (sn : List Str) : Nat → Mem → Prop
  | _, .try_ _ m w ds => okMW sn m w ∧ okDs 3 ds
  | _, .many _ m w k ns ds => okMW sn m w ∧ (k = "k" ∨ k = "m") ∧ okNums ns ∧ okDs 2 ds
  | 0, .group _ _ _ _ => False
  | k + 1, .group _ m w ms => okMW sn m w ∧ ms.length ≤ 4 ∧ (ms.map Mem.name).Nodup ∧ (∀ x ∈ ms.map Mem.name, x ∈ nmL) ∧ oksIn sn k ms
def oksIn (sn : List Str) : Nat → List Mem → Prop
  | _, [] => True
  | k, m :: ms => m.ok sn k ∧ oksIn sn k ms
end
theorem oksIn_app {sn : List Str} {k : Nat} : ∀ {a b : List Mem}, oksIn sn k a → oksIn sn k b → oksIn sn k (a ++ b)
  | [], _, _, h => h
  | m :: a, b, h1, h2 => by
    simp only [List.cons_append, oksIn] at h1 ⊢
    exact ⟨h1.1, oksIn_app h1.2 h2⟩
/-- a good book -/
structure Book.ok (b : Book) : Prop where
  st1 : okStages b.stages
  st2 : (b.stages.map Stage.name).Nodup
  st3 : ∀ s ∈ b.stages, s.name ∈ stNames
  st4 : b.stages.length ≤ 6
  m1 : oksIn (b.stages.map Stage.name) 2 b.mems
  m2 : (b.mems.map Mem.name).Nodup
  m3 : ∀ x ∈ b.mems.map Mem.name, x ∈ nmZ
  m4 : b.mems.length ≤ 5
mutual
theorem Mem.ok_mono {sn : List Str} : ∀ (k : Nat) (m : Mem), m.ok sn k → m.ok sn (k + 1)
  | _, .try_ _ _ _ _, h => by simpa only [Mem.ok] using h
  | _, .many _ _ _ _ _ _, h => by simpa only [Mem.ok] using h
  | 0, .group _ _ _ _, h => by simp only [Mem.ok] at h
  | k + 1, .group _ m w ms, h => by
    simp only [Mem.ok] at h
    rw [Mem.ok]
    exact ⟨h.1, h.2.1, h.2.2.1, h.2.2.2.1, oksIn_mono k ms h.2.2.2.2⟩
theorem oksIn_mono {sn : List Str} : ∀ (k : Nat) (ms : List Mem), oksIn sn k ms → oksIn sn (k + 1) ms
  | _, [], _ => by simp only [oksIn]
  | k, m :: ms, h => by
    simp only [oksIn] at h ⊢
    exact ⟨Mem.ok_mono k m h.1, oksIn_mono k ms h.2⟩
end
theorem any_ints (x : Int) : ∀ l : List Int, ((l.map PyData.int).any fun z => z.eqv (.int x)) = decide (x ∈ l)
  | [] => rfl
  | y :: l => by
    rw [List.map_cons, List.any_cons, any_ints x l]
    have : (y == x) = decide (x = y) := by rw [Bool.eq_iff_iff, beq_iff_eq, decide_eq_true_eq]; exact eq_comm
    simp [PyData.eqv, List.mem_cons, this]
theorem depth_ints : ∀ l : List Int, PyData.depthAll (l.map .int) = 0
  | [] => rfl
  | x :: l => by simp [PyData.depthAll, PyData.depth, depth_ints l]
theorem inL_ints (x : Int) (l : List Int) : inL (.int x) (l.map .int) = some (decide (x ∈ l)) := by
  simp only [inL, D.py, pys_int, PyData.depth, depth_ints, any_ints]
  rfl
theorem q_negi {st : Sto} {P : D → Sto → Prop} {E : Str → Sto → Prop} (i : Int) : wp (gNeg (.int i)) st P E = P (.int (-i)) st := rfl
theorem memsD_len : ∀ ms : List Mem, (memsD ms).length = ms.length
  | [] => rfl
  | m :: ms => by simp [memsD, memsD_len ms]
def cB : Nat → Nat
  | 0 => 21
  | k + 1 => 12 + 4 * cB k
theorem cB_ge : ∀ k, 21 ≤ cB k
  | 0 => Nat.le_refl _
  | k + 1 => by have := cB_ge k; simp only [cB]; omega
theorem filt_true {α : Type} (l : List α) : l.filter (fun _ => true) = l := List.filter_eq_self.mpr fun _ _ => rfl
section
variable {T : Tab} {gc : Str → Option D} {P : D → Sto → Prop} {E : Str → Sto → Prop}
def MemS (T : Tab) (gc : Str → Option D) (left : Nat) : Prop := ∀ (n : Nat) (st : Sto) (ns : List Int) (i k : Nat) (nm : Str) (sn : List Str), st[i]? = some (.lst (zeros k)) → Wf st → 3 + 2 * left < n → k + 4000 * (2 * left + 1) < 1000000 →
  wp (cfN T gc n "_law_member" [.scr ns, .ref i, .str nm, .lst (sn.map .str), .int left]) st (fun d st1 => ∃ (m : Mem) (k' : Nat), d = m.d ∧ m.name = nm ∧ m.ok sn left ∧ k' ≤ k + cB left ∧ st1 = st.set i (.lst (zeros k'))) noX
def MemsS (T : Tab) (gc : Str → Option D) (left : Nat) : Prop := ∀ (n : Nat) (st : Sto) (ns : List Int) (i k : Nat) (sn : List Str), st[i]? = some (.lst (zeros k)) → Wf st → 4 + 2 * left < n → k + 4000 * (2 * left + 2) < 1000000 →
  wp (cfN T gc n "_law_members" [.scr ns, .ref i, .lst (sn.map .str), .int left]) st (fun d st1 => ∃ (ms : List Mem) (k' : Nat), d = .tup (memsD ms) ∧ ms.length ≤ 4 ∧ (ms.map Mem.name).Nodup ∧ (∀ x ∈ ms.map Mem.name, x ∈ nmL) ∧ oksIn sn left ms ∧ k' ≤ k + (5 + 4 * cB left) ∧ st1 = st.set i (.lst (zeros k'))) noX
theorem member_of (L : LawT T) {left : Nat} (hl : left ≤ 2) (h : ∀ l', left = l' + 1 → MemsS T gc l') : MemS T gc left := by
  intro n st ns i k nm sn hi hw hn hk
  obtain ⟨n, rfl⟩ : ∃ k, n = k + 1 := ⟨n - 1, by omega⟩
  have hlt := tw_lt hi
  rw [w_fn L.member]
  simp [k_member]
  refine wp_go (some_at L.draw L.pick L.some_ (by omega) (f := D.str) inL_strs (fun x i e => by cases e) (l := mkL3) (top := 2) (.inr rfl) hi (by omega) (by omega)) ?_
  rintro _ _ ⟨mr, k1, rfl, m1, m2, m3, hk1, rfl⟩
  refine wp_go (some_at L.draw L.pick L.some_ (by omega) (f := D.str) inL_strs (fun x i e => by cases e) (l := sn) (top := 2) (.inr rfl) (tw_set hi _) (by omega) (by omega)) ?_
  rintro _ _ ⟨wr, k2, rfl, w1, w2, w3, hk2, rfl⟩
  have mw : okMW sn mr wr := ⟨m1, m2, m3, w1, w2, w3⟩
  simp
  refine wp_go (draw_at L.draw (by omega) (by omega) (tw_set hi _) (by omega)) ?_
  rintro _ _ ⟨j, h0, h1, rfl, rfl⟩
  simp [q_negi]
  have cb := cB_ge left
  have hTry : wp (cfN T gc n (Str.ofString "_law_deeds") [D.scr ns, D.ref i, D.int 3]) (st.set i (.lst (zeros (k2 + 1)))) (fun d st1 => fnQ st (fun d st1 => ∃ m : Mem, d = m.d ∧ m.name = nm ∧ Mem.ok sn left m ∧ ∃ x, x ≤ k + cB left ∧ st1 = st.set i (.lst (zeros x))) noX
      (Out.rt (D.tup [D.str (Str.ofString "try"), D.str nm, D.tup (mr.map D.str), D.tup (wr.map D.str), d])) st1) noX := by
    refine wp_go (deeds_at L (by omega) (top := 3) (tw_set hi _) (by omega) (by omega)) ?_
    rintro _ _ ⟨ds, k3, rfl, d1, d2, hk3, rfl⟩
    rw [fnQ_rt (by simp) (fun i e => by cases e)]
    exact ⟨.try_ nm mr wr ds, rfl, rfl, by simp only [Mem.ok]; exact ⟨mw, d1, d2⟩, k3, by omega, by simp⟩
  split
  · split
    · rename_i hl0
      obtain ⟨l', rfl⟩ : ∃ l', left = l' + 1 := ⟨left - 1, by omega⟩
      have e : ((l' + 1 : Nat) : Int) - 1 = (l' : Int) := by omega
      rw [e]
      refine wp_go (h l' rfl n _ ns i (k2 + 1) sn (tw_set hi _) hw.tw (by omega) (by omega)) ?_
      rintro _ _ ⟨ms, k3, rfl, s1, s2, s3, s4, hk3, rfl⟩
      rw [fnQ_rt (by simp) (fun i e => by cases e)]
      refine ⟨.group nm mr wr ms, rfl, rfl, by simp only [Mem.ok]; exact ⟨mw, s1, s2, s3, s4⟩, k3, ?_, by simp⟩
      simp only [cB]
      omega
    · split
      · omega
      · exact wp_mono hTry (fun _ _ h => h) (fun _ _ z => False.elim z)
  · split
    · have hkm : ("km" : Str).cps.toList = [107, 109] := by decide +kernel
      refine wp_go (some_at L.draw L.pick L.some_ (by omega) (f := D.int) inL_ints (fun x i e => by cases e) (l := nuL) (top := 3) (.inr rfl) (tw_set hi _) (by omega) (by omega)) ?_
      rintro _ _ ⟨nr, k3, rfl, n1, n2, n3, hk3, rfl⟩
      have main : ∀ nums : List Int, okNums nums → ∀ tail : D → Str → Sto → Prop, wp (cfN T gc n (Str.ofString "_law_pick") [D.scr ns, D.ref i, D.str (Str.ofString "km")]) (st.set i (.lst (zeros k3))) (fun d_1 st1 =>
          wp (cfN T gc n (Str.ofString "_law_deeds") [D.scr ns, D.ref i, D.int 2]) st1 (fun d_2 st1 => fnQ st (fun d st1 => ∃ m : Mem, d = m.d ∧ m.name = nm ∧ Mem.ok sn left m ∧ ∃ x, x ≤ k + cB left ∧ st1 = st.set i (.lst (zeros x))) noX
            (Out.rt (D.tup [D.str (Str.ofString "many"), D.str nm, D.tup (mr.map D.str), D.tup (wr.map D.str), d_1, .tup (nums.map .int), d_2])) st1) (tail d_1)) noX := by
        intro nums hnums tail
        refine wp_go (pick_str L.draw L.pick (by omega) (by rw [hkm]; simp) (tw_set hi _) (by omega)) ?_
        rintro _ _ ⟨⟨c, hc, rfl⟩, rfl⟩
        have hkey : (⟨#[c]⟩ : Str) = "k" ∨ (⟨#[c]⟩ : Str) = "m" := by
          rw [hkm] at hc
          simp at hc
          rcases hc with rfl | rfl
          · exact .inl (by decide +kernel)
          · exact .inr (by decide +kernel)
        generalize (⟨#[c]⟩ : Str) = key at hkey
        refine wp_go (deeds_at L (by omega) (top := 2) (tw_set (tw_set hi _) _) (by omega) (by omega)) ?_
        rintro _ _ ⟨ds, k4, rfl, d1, d2, hk4, rfl⟩
        rw [fnQ_rt (by simp) (fun i e => by cases e)]
        exact ⟨.many nm mr wr key nums ds, rfl, rfl, by simp only [Mem.ok]; exact ⟨mw, hkey, hnums, d1, d2⟩, k4, by omega, by simp⟩
      cases nr with
      | nil =>
        simp
        refine wp_mono (main [5] ⟨by simp, by simp, by simp, by simp⟩ (fun _ _ _ => False)) (fun _ _ h => wp_mono h (fun _ _ h => h) (fun _ _ z => False.elim z)) (fun _ _ z => False.elim z)
      | cons x nr =>
        have hnums : okNums (x :: nr) := ⟨by simp, n1, fun i hi => List.mem_append_left _ (n2 i hi), n3⟩
        simp
        exact wp_mono (main (x :: nr) hnums (fun _ _ _ => False)) (fun _ _ h => wp_mono h (fun _ _ h => h) (fun _ _ z => False.elim z)) (fun _ _ z => False.elim z)
    · exact wp_mono hTry (fun _ _ h => h) (fun _ _ z => False.elim z)
theorem members_of (L : LawT T) {left : Nat} (hl : left ≤ 2) (h : MemS T gc left) : MemsS T gc left := by
  intro n st ns i k sn hi hw hn hk
  obtain ⟨n, rfl⟩ : ∃ k, n = k + 1 := ⟨n - 1, by omega⟩
  have hlt := tw_lt hi
  have cb : cB left ≤ 400 := by
    have : left = 0 ∨ left = 1 ∨ left = 2 := by omega
    rcases this with rfl | rfl | rfl <;> decide
  rw [w_fn L.members]
  simp [k_members]
  refine wp_go (mixed_at L.draw L.mixed (by omega) (l := nmL.map .str) (.inl rfl) (fun m => rlt_str m _) hi hw (by decide) (by simp [nmL]; omega)) ?_
  rintro _ _ ⟨l', rfl, hp, rfl⟩
  obtain ⟨nm, rfl, hpn⟩ := perm_str hp
  have s6 : nmL.length = 4 := rfl
  simp [s6]
  refine wp_go (draw_at L.draw (by omega) (by omega) (tw_set hi _) (by omega)) ?_
  rintro _ _ ⟨j, h0, h1, rfl, rfl⟩
  have cl : (cutG (nm.map D.str) none (some j)).length ≤ 16777216 := by
    refine Nat.le_trans (show (cutG (nm.map D.str) none (some j)).length ≤ (nm.map D.str).length from ?_) ?_
    · unfold cutG; rw [List.length_take, List.length_drop]; omega
    · rw [List.length_map, hpn.length_eq, s6]; omega
  simp [cl]
  rw [cut_take _ h0, ← List.map_take]
  have hsub : (nm.take j.toNat).Nodup ∧ (∀ x ∈ nm.take j.toNat, x ∈ nmL) ∧ (nm.take j.toNat).length ≤ 4 := by
    refine ⟨(hpn.nodup_iff.mpr (by decide +kernel)).sublist (List.take_sublist _ _), fun x hx => hpn.mem_iff.mp (List.mem_of_mem_take hx), ?_⟩
    rw [List.length_take, hpn.length_eq, s6]; omega
  generalize nm.take j.toNat = nl at hsub
  obtain ⟨u1, u2, u3⟩ := hsub
  refine loop_inv (fun ds ρ st2 => ∃ (ms : List Mem) (rest : List Str) (kk : Nat) (x5 : Option D), nl = ms.map Mem.name ++ rest ∧ ds = rest.map .str ∧ oksIn sn left ms ∧ kk ≤ k + 5 + cB left * ms.length ∧ st2 = st.set i (.lst (zeros kk)) ∧ ρ = [some (.scr ns), some (.ref i), some (.lst (sn.map .str)), some (.int left), some (.tup (memsD ms)), x5]) ?_ ?_ ?_ _ _ _ ?_
  · intro ds ρ st2 _
    trivial
  · rintro d ds _ _ ⟨ms, rest, kk, x5, e1, e2, ok, hkk, rfl, rfl⟩
    cases rest with
    | nil => cases e2
    | cons name rest =>
      simp only [List.map_cons, List.cons.injEq] at e2
      obtain ⟨rfl, rfl⟩ := e2
      refine ⟨_, rfl, ?_⟩
      have hss : ms.length ≤ 3 := by rw [e1] at u3; simp at u3; omega
      have hm1 : cB left * ms.length ≤ 1200 := Nat.le_trans (Nat.mul_le_mul cb hss) (by decide)
      simp
      refine wp_go (h n _ ns i kk name sn (tw_set hi _) hw.tw (by omega) (by omega)) ?_
      rintro _ _ ⟨m, k1, rfl, rfl, mo, hk1, rfl⟩
      have hrl : ((memsD ms).length ≤ 16777215) = True := eq_true (by rw [memsD_len]; omega)
      simp [hrl]
      refine ⟨ms ++ [m], rest, by simp [e1], rfl, oksIn_app ok (by simp only [oksIn]; exact ⟨mo, trivial⟩), k1, ?_, rfl, by simp [memsD_app, memsD]⟩
      rw [List.length_append, Nat.mul_add]
      simp
      omega
  · rintro _ _ ⟨ms, rest, kk, x5, e1, e2, ok, hkk, rfl, rfl⟩
    cases rest with
    | cons _ _ => cases e2
    | nil =>
      rw [List.append_nil] at e1
      subst e1
      have hss : ms.length ≤ 4 := by simpa using u3
      have hm1 : cB left * ms.length ≤ cB left * 4 := Nat.mul_le_mul_left _ hss
      simp
      rw [fnQ_rt (by simp) (fun i e => by cases e)]
      exact ⟨ms, rfl, hss, u1, fun x hx => u2 _ (List.mem_map_of_mem hx), ok, kk, by omega, rfl⟩
  · exact ⟨[], nl, k + 5, none, rfl, rfl, by simp only [oksIn], by simp, rfl, rfl⟩
theorem mem_all (L : LawT T) : ∀ left : Nat, left ≤ 2 → MemS T gc left ∧ MemsS T gc left
  | 0, h => by
    have h1 : MemS T gc 0 := member_of L h fun _ e => by cases e
    exact ⟨h1, members_of L h h1⟩
  | left + 1, h => by
    have h0 := (mem_all L left (by omega)).2
    have h1 : MemS T gc (left + 1) := member_of L h fun l' e => by cases e; exact h0
    exact ⟨h1, members_of L h h1⟩
theorem book_at (L : LawT T) {n : Nat} (hn : 10 < n) {ns : List Int} {st : Sto} {i k : Nat} (hi : st[i]? = some (.lst (zeros k))) (hw : Wf st) (hk : k + 40000 < 1000000) :
    wp (cfN T gc n "_law_book" [.scr ns, .ref i]) st (fun d st1 => ∃ (b : Book) (k' : Nat), d = b.d ∧ b.ok ∧ k' ≤ k + 3000 ∧ st1 = st.set i (.lst (zeros k'))) noX := by
  obtain ⟨n, rfl⟩ : ∃ k, n = k + 1 := ⟨n - 1, by omega⟩
  have hlt := tw_lt hi
  rw [w_fn L.book]
  simp [k_book]
  refine wp_go (stages_at L (by omega) hi hw (by omega)) ?_
  rintro _ _ ⟨ss, k1, rfl, s1, s2, s3, s4, hk1, rfl⟩
  simp
  rw [lc_pure (fun d => [some (.scr ns), some (.ref i), some (.tup (ss.map Stage.d)), none, none, some d]) (fun d => true) (fun d => .str (dName d)) (by trivial) _ _ (fun d _ => rfl)]
  · rw [filter_stage (fun _ => true) _ (fun s => rfl)]
    rw [filt_true]
    have hsl : ((ss.map Stage.name).map D.str).length ≤ 16777216 := by simp; omega
    refine ⟨hsl, ?_⟩
    clear hsl
    obtain ⟨sn, hsn⟩ : ∃ sn, sn = ss.map Stage.name := ⟨_, rfl⟩
    rw [← hsn]
    try simp
    refine wp_go ((mem_all L 2 (by omega)).2 n _ ns i k1 sn (tw_set hi _) hw.tw (by omega) (by omega)) ?_
    rintro _ _ ⟨ms, k2, rfl, m1, m2, m3, m4, hk2, rfl⟩
    simp
    have c2 : cB 2 = 396 := rfl
    have c1 : cB 1 = 96 := rfl
    refine wp_go ((mem_all L 1 (by omega)).1 n _ ns i k2 "z" sn (tw_set hi _) hw.tw (by omega) (by omega)) ?_
    rintro _ _ ⟨m, k3, rfl, mz, mo, hk3, rfl⟩
    have hrl : ((memsD ms).length ≤ 16777215) = True := eq_true (by rw [memsD_len]; omega)
    have hrl2 : ((memsD ms).length + 1 ≤ 16777216) = True := eq_true (by rw [memsD_len]; omega)
    simp [hrl, hrl2]
    rw [fnQ_rt (by simp) (fun i e => by cases e)]
    refine ⟨⟨ss, ms ++ [m]⟩, by simp [Book.d, memsD_app, memsD], ⟨s1, s2, s3, s4, ?_, ?_, ?_, by simp; omega⟩, k3, by omega, by simp⟩
    · rw [← hsn]
      exact oksIn_app m4 (by simp only [oksIn]; exact ⟨Mem.ok_mono 1 m mo, trivial⟩)
    · rw [List.map_append, List.nodup_append]
      refine ⟨m2, by simp, fun x hx y hy e => ?_⟩
      simp at hy
      have := m3 x hx
      rw [e, hy, mz] at this
      simp [nmL] at this
    · intro x hx
      rw [List.map_append] at hx
      rcases List.mem_append.mp hx with h | h
      · exact nm_nmZ x (m3 x h)
      · simp at h
        rw [h, mz]
        simp [nmZ]
  · intro d hd P
    simp
  · intro d hd _ P
    obtain ⟨s, hs, rfl⟩ := List.mem_map.mp hd
    simp [Stage.d, dName]
end
end TB
set_option Elab.async false
set_option linter.all false
set_option maxRecDepth 100000
set_option maxHeartbeats 4000000
/-! TB23: wishes as plain data; what they choose -/
namespace TB
open PySem PySem.Spec L2
def k_p_holds : Def := ⟨"holds", ["wish", "path", "marks"], ["wish", "path", "marks"],
  (.cons (.ife (.cmp .Eq (.idx (.var 0) (.int 0)) (.str "mark"))
   (.cons (.ret (.cmp .In (.idx (.var 0) (.int 1)) (.var 2)))
   .nil)
   .nil)
  (.cons (.ife (.cmp .Eq (.idx (.var 0) (.int 0)) (.str "name"))
   (.cons (.ret (.cmp .In (.idx (.var 0) (.int 1)) (.var 1)))
   .nil)
   .nil)
  (.cons (.ife (.cmp .Eq (.idx (.var 0) (.int 0)) (.str "not"))
   (.cons (.ret (.not (.call "holds" 3 (.cons (.idx (.var 0) (.int 1)) (.cons (.var 1) (.cons (.var 2) .nil))))))
   .nil)
   .nil)
  (.cons (.ife (.cmp .Eq (.idx (.var 0) (.int 0)) (.str "and"))
   (.cons (.ret (.band (.cons (.call "holds" 3 (.cons (.idx (.var 0) (.int 1)) (.cons (.var 1) (.cons (.var 2) .nil)))) (.cons (.call "holds" 3 (.cons (.idx (.var 0) (.int 2)) (.cons (.var 1) (.cons (.var 2) .nil)))) .nil))))
   .nil)
   .nil)
  (.cons (.ret (.bor (.cons (.call "holds" 3 (.cons (.idx (.var 0) (.int 1)) (.cons (.var 1) (.cons (.var 2) .nil)))) (.cons (.call "holds" 3 (.cons (.idx (.var 0) (.int 2)) (.cons (.var 1) (.cons (.var 2) .nil)))) .nil))))
  .nil)))))⟩

def k_p_chosen : Def := ⟨"chosen", ["book", "wish"], ["book", "wish", "one"],
  (.cons (.ret (.blt .tuple (.lc false [("one", 2)] (.one 2) (.seq (.call "tries_of" 1 (.cons (.var 0) .nil))) (.some (.call "holds" 3 (.cons (.var 1) (.cons (.idx (.var 2) (.int 0)) (.cons (.idx (.var 2) (.int 2)) .nil))))) (.idx (.var 2) (.int 0)))))
  .nil)⟩

def k_p_simple : Def := ⟨"simple", ["wish"], ["wish", "inner", "word"],
  (.cons (.ife (.cmp .In (.idx (.var 0) (.int 0)) (.tup (.cons (.str "mark") (.cons (.str "name") .nil))))
   (.cons (.ret (.var 0))
   .nil)
   .nil)
  (.cons (.ife (.cmp .NotEq (.idx (.var 0) (.int 0)) (.str "not"))
   (.cons (.ret (.tup (.cons (.idx (.var 0) (.int 0)) (.cons (.call "simple" 1 (.cons (.idx (.var 0) (.int 1)) .nil)) (.cons (.call "simple" 1 (.cons (.idx (.var 0) (.int 2)) .nil)) .nil)))))
   .nil)
   .nil)
  (.cons (.asg (.one 1) (.idx (.var 0) (.int 1)))
  (.cons (.ife (.cmp .In (.idx (.var 1) (.int 0)) (.tup (.cons (.str "mark") (.cons (.str "name") .nil))))
   (.cons (.ret (.var 0))
   .nil)
   .nil)
  (.cons (.ife (.cmp .Eq (.idx (.var 1) (.int 0)) (.str "not"))
   (.cons (.ret (.call "simple" 1 (.cons (.idx (.var 1) (.int 1)) .nil)))
   .nil)
   .nil)
  (.cons (.asg (.one 2) (.idx (.dsp [.inr "and", .inr "or"] (.cons (.str "or") (.cons (.str "and") .nil))) (.idx (.var 1) (.int 0))))
  (.cons (.ret (.tup (.cons (.var 2) (.cons (.call "simple" 1 (.cons (.tup (.cons (.str "not") (.cons (.idx (.var 1) (.int 1)) .nil))) .nil)) (.cons (.call "simple" 1 (.cons (.tup (.cons (.str "not") (.cons (.idx (.var 1) (.int 2)) .nil))) .nil)) .nil)))))
  .nil)))))))⟩

def k_p_parting : Def := ⟨"parting", ["book", "one", "other"], ["book", "one", "other", "path", "group", "marks", "wants", "deeds"],
  (.cons (.for_ (.tup [3, 4, 5, 6, 7]) (.seq (.call "tries_of" 1 (.cons (.var 0) .nil)))
   (.cons (.ife (.cmp .NotEq (.call "holds" 3 (.cons (.var 1) (.cons (.var 3) (.cons (.var 5) .nil)))) (.call "holds" 3 (.cons (.var 2) (.cons (.var 3) (.cons (.var 5) .nil)))))
    (.cons (.ret (.var 3))
    .nil)
    .nil)
   .nil))
  (.cons (.ret .non)
  .nil))⟩

def k_p_try_at : Def := ⟨"try_at", ["book", "path"], ["book", "path", "found", "one"],
  (.cons (.asg (.one 2) (.lc false [("one", 3)] (.one 3) (.seq (.call "tries_of" 1 (.cons (.var 0) .nil))) (.some (.cmp .Eq (.idx (.var 3) (.int 0)) (.var 1))) (.var 3)))
  (.cons (.ife (.not (.var 2))
   (.cons (.raise "NoPath")
   .nil)
   .nil)
  (.cons (.ret (.idx (.var 2) (.int 0)))
  .nil)))⟩

def k_p_marks_of : Def := ⟨"marks_of", ["book", "path"], ["book", "path"],
  (.cons (.ret (.idx (.call "try_at" 2 (.cons (.var 0) (.cons (.var 1) .nil))) (.int 2)))
  .nil)⟩

def k_size : Def := ⟨"_law_size", ["wish"], ["wish", "part"],
  (.cons (.ife (.cmp .In (.idx (.var 0) (.int 0)) (.tup (.cons (.str "mark") (.cons (.str "name") .nil))))
   (.cons (.ret (.int 1))
   .nil)
   .nil)
  (.cons (.ret (.blt .sum (.lc false [("part", 1)] (.one 1) (.seq (.slc false (.var 0) (.some (.int 1)) .none)) .none (.call "_law_size" 1 (.cons (.var 1) .nil)))))
  .nil))⟩

inductive Wish where
  | mark (x : Str) | name (x : Str) | not (w : Wish) | and (a b : Wish) | or (a b : Wish)
def Wish.d : Wish → D
  | .mark x => .tup [.str "mark", .str x]
  | .name x => .tup [.str "name", .str x]
  | .not w => .tup [.str "not", w.d]
  | .and a b => .tup [.str "and", a.d, b.d]
  | .or a b => .tup [.str "or", a.d, b.d]
def Wish.deep : Wish → Nat
  | .mark _ => 1
  | .name _ => 1
  | .not w => w.deep + 1
  | .and a b => max a.deep b.deep + 1
  | .or a b => max a.deep b.deep + 1
def wmL : List Str := ["x", "y", "slow", "no"]
def wnL : List Str := ["a", "b", "de", "z", "e", "q"]
def Wish.ok : Wish → Prop
  | .mark x => x ∈ wmL
  | .name x => x ∈ wnL
  | .not w => w.ok
  | .and a b => a.ok ∧ b.ok
  | .or a b => a.ok ∧ b.ok
theorem Wish.deep_pos (w : Wish) : 1 ≤ w.deep := by cases w <;> simp [Wish.deep]
theorem Wish.rlt (n : Nat) : ∀ w : Wish, w.d.rlt n = true
  | .mark x => rfl
  | .name x => rfl
  | .not w => by simp [Wish.d, D.rlt, D.rlts, Wish.rlt n w]
  | .and a b => by simp [Wish.d, D.rlt, D.rlts, Wish.rlt n a, Wish.rlt n b]
  | .or a b => by simp [Wish.d, D.rlt, D.rlts, Wish.rlt n a, Wish.rlt n b]
def subS (x p : Str) : Bool := !(Builtin.Str.occurrences p x 0 p.length 1).isEmpty
def Wish.holds (p : Str) (ms : List Str) : Wish → Bool
  | .mark x => decide (x ∈ ms)
  | .name x => subS x p
  | .not w => !w.holds p ms
  | .and a b => a.holds p ms && b.holds p ms
  | .or a b => a.holds p ms || b.holds p ms
@[simp] theorem in_str {st : Sto} (x p : Str) : inT st (.str x) (.str p) = some (subS x p) := rfl
/-- simple, and simple of not -/
def Wish.simp : Bool → Wish → Wish
  | false, .mark x => .mark x
  | true, .mark x => .not (.mark x)
  | false, .name x => .name x
  | true, .name x => .not (.name x)
  | b, .not w => w.simp (!b)
  | false, .and a b => .and (a.simp false) (b.simp false)
  | true, .and a b => .or (a.simp true) (b.simp true)
  | false, .or a b => .or (a.simp false) (b.simp false)
  | true, .or a b => .and (a.simp true) (b.simp true)
def Wish.size : Wish → Nat
  | .mark _ => 1
  | .name _ => 1
  | .not w => w.size
  | .and a b => a.size + b.size
  | .or a b => a.size + b.size
theorem Wish.simp_size : ∀ (w : Wish) (b : Bool), (w.simp b).size = w.size
  | .mark _, b => by cases b <;> rfl
  | .name _, b => by cases b <;> rfl
  | .not w, b => by simp [Wish.simp, Wish.size, Wish.simp_size w]
  | .and a c, b => by cases b <;> simp [Wish.simp, Wish.size, Wish.simp_size a, Wish.simp_size c]
  | .or a c, b => by cases b <;> simp [Wish.simp, Wish.size, Wish.simp_size a, Wish.simp_size c]
theorem Wish.simp_deep : ∀ (w : Wish) (b : Bool), (w.simp b).deep ≤ w.deep + 1
  | .mark _, b => by cases b <;> simp [Wish.simp, Wish.deep]
  | .name _, b => by cases b <;> simp [Wish.simp, Wish.deep]
  | .not w, b => by have := Wish.simp_deep w (!b); simp [Wish.simp, Wish.deep]; omega
  | .and a c, b => by have h1 := fun b => Wish.simp_deep a b; have h2 := fun b => Wish.simp_deep c b; have := h1 b; have := h2 b; cases b <;> simp [Wish.simp, Wish.deep] <;> omega
  | .or a c, b => by have h1 := fun b => Wish.simp_deep a b; have h2 := fun b => Wish.simp_deep c b; have := h1 b; have := h2 b; cases b <;> simp [Wish.simp, Wish.deep] <;> omega
theorem Wish.simp_holds (p : Str) (ms : List Str) : ∀ (w : Wish) (b : Bool), (w.simp b).holds p ms = (b != w.holds p ms)
  | .mark _, b => by cases b <;> simp [Wish.simp, Wish.holds]
  | .name _, b => by cases b <;> simp [Wish.simp, Wish.holds]
  | .not w, b => by simp only [Wish.simp, Wish.holds, Wish.simp_holds p ms w]; cases b <;> cases w.holds p ms <;> rfl
  | .and a c, b => by cases b <;> simp only [Wish.simp, Wish.holds, Wish.simp_holds p ms a, Wish.simp_holds p ms c] <;> cases a.holds p ms <;> cases c.holds p ms <;> rfl
  | .or a c, b => by cases b <;> simp only [Wish.simp, Wish.holds, Wish.simp_holds p ms a, Wish.simp_holds p ms c] <;> cases a.holds p ms <;> cases c.holds p ms <;> rfl
theorem Wish.simp_simp : ∀ (w : Wish) (b : Bool), (w.simp b).simp false = w.simp b
  | .mark _, b => by cases b <;> rfl
  | .name _, b => by cases b <;> rfl
  | .not w, b => by simp only [Wish.simp, Wish.simp_simp w]
  | .and a c, b => by cases b <;> simp only [Wish.simp, Wish.simp_simp a, Wish.simp_simp c]
  | .or a c, b => by cases b <;> simp only [Wish.simp, Wish.simp_simp a, Wish.simp_simp c]
/-! ### equal data -/
mutual
def D.fine : Nat → D → Bool
  | _, .non => true
  | _, .bl _ => true
  | _, .int _ => true
  | _, .str _ => true
  | 0, .tup _ => false
  | k + 1, .tup l => D.fines k l
  | 0, .lst _ => false
  | k + 1, .lst l => D.fines k l
  | _, _ => false
def D.fines : Nat → List D → Bool
  | _, [] => true
  | k, d :: l => D.fine k d && D.fines k l
end
mutual
theorem fine_py : ∀ (k : Nat) (d : D), d.fine k = true → ∃ p, d.py = some p ∧ p.depth ≤ k ∧ p.eqv p = true
  | k, .non, _ => ⟨_, rfl, by simp [PyData.depth], by simp [PyData.eqv]⟩
  | k, .bl _, _ => ⟨_, rfl, by simp [PyData.depth], by simp [PyData.eqv]⟩
  | k, .int _, _ => ⟨_, rfl, by simp [PyData.depth], by simp [PyData.eqv]⟩
  | k, .str _, _ => ⟨_, rfl, by simp [PyData.depth], by simp [PyData.eqv]⟩
  | 0, .tup _, h => by simp [D.fine] at h
  | k + 1, .tup l, h => by
    simp only [D.fine] at h
    obtain ⟨ps, e, h1, h2⟩ := fines_py k l h
    exact ⟨.tuple ps, by simp [D.py, e], by simp [PyData.depth]; omega, by rw [PyData.eqv]; exact h2⟩
  | 0, .lst _, h => by simp [D.fine] at h
  | k + 1, .lst l, h => by
    simp only [D.fine] at h
    obtain ⟨ps, e, h1, h2⟩ := fines_py k l h
    exact ⟨.list ps, by simp [D.py, e], by simp [PyData.depth]; omega, by rw [PyData.eqv]; exact h2⟩
  | k, .ref _, h => by simp [D.fine] at h
  | k, .fn _, h => by simp [D.fine] at h
  | k, .scr _, h => by simp [D.fine] at h
theorem fines_py : ∀ (k : Nat) (l : List D), D.fines k l = true → ∃ ps, D.pys l = some ps ∧ PyData.depthAll ps ≤ k ∧ PyData.eqvAll ps ps = true
  | k, [], _ => ⟨[], rfl, by simp [PyData.depthAll], rfl⟩
  | k, d :: l, h => by
    simp only [D.fines, Bool.and_eq_true] at h
    obtain ⟨p, e, h1, h2⟩ := fine_py k d h.1
    obtain ⟨ps, e', h1', h2'⟩ := fines_py k l h.2
    exact ⟨p :: ps, by simp [D.pys, e, e'], by simp [PyData.depthAll]; omega, by simp [PyData.eqvAll, h2, h2']⟩
end
theorem pyT_fine {st : Sto} {k : Nat} {d : D} (h : d.fine k = true) : pyT st d = d.py := by
  cases d <;> first | rfl | (simp [D.fine] at h)
theorem eqT_refl {st : Sto} {k : Nat} {d : D} (h : d.fine k = true) (hk : k ≤ 64) : eqT st d d = some true := by
  obtain ⟨p, e, h1, h2⟩ := fine_py k d h
  unfold eqT
  rw [pyT_fine h, e]
  simp [h2]
  omega
theorem fine_strs (k : Nat) : ∀ l : List Str, D.fines k (l.map .str) = true
  | [] => by simp [D.fines]
  | x :: l => by simp [D.fines, D.fine, fine_strs k l]
theorem fine_sD (k : Nat) (l : List Str) : (sD l).fine (k + 1) = true := by simp only [sD, D.fine]; exact fine_strs k l
mutual
theorem fine_mono : ∀ (k : Nat) (d : D), d.fine k = true → d.fine (k + 1) = true
  | k, .non, _ => by simp [D.fine]
  | k, .bl _, _ => by simp [D.fine]
  | k, .int _, _ => by simp [D.fine]
  | k, .str _, _ => by simp [D.fine]
  | 0, .tup _, h => by simp [D.fine] at h
  | k + 1, .tup l, h => by
    simp only [D.fine] at h
    rw [D.fine]; exact fines_mono k l h
  | 0, .lst _, h => by simp [D.fine] at h
  | k + 1, .lst l, h => by
    simp only [D.fine] at h
    rw [D.fine]; exact fines_mono k l h
  | k, .ref _, h => by simp [D.fine] at h
  | k, .fn _, h => by simp [D.fine] at h
  | k, .scr _, h => by simp [D.fine] at h
theorem fines_mono : ∀ (k : Nat) (l : List D), D.fines k l = true → D.fines (k + 1) l = true
  | k, [], _ => by simp [D.fines]
  | k, d :: l, h => by
    simp only [D.fines, Bool.and_eq_true] at h ⊢
    exact ⟨fine_mono k d h.1, fines_mono k l h.2⟩
end
theorem Wish.fine : ∀ (w : Wish) (k : Nat), w.deep ≤ k → w.d.fine k = true
  | .mark x, k, h => by
    obtain ⟨k, rfl⟩ : ∃ j, k = j + 1 := ⟨k - 1, by simp [Wish.deep] at h; omega⟩
    simp [Wish.d, D.fine, D.fines]
  | .name x, k, h => by
    obtain ⟨k, rfl⟩ : ∃ j, k = j + 1 := ⟨k - 1, by simp [Wish.deep] at h; omega⟩
    simp [Wish.d, D.fine, D.fines]
  | .not w, k, h => by
    simp only [Wish.deep] at h
    obtain ⟨k, rfl⟩ : ∃ j, k = j + 1 := ⟨k - 1, by omega⟩
    simp [Wish.d, D.fine, D.fines, Wish.fine w k (by omega)]
  | .and a b, k, h => by
    simp only [Wish.deep] at h
    obtain ⟨k, rfl⟩ : ∃ j, k = j + 1 := ⟨k - 1, by omega⟩
    simp [Wish.d, D.fine, D.fines, Wish.fine a k (by omega), Wish.fine b k (by omega)]
  | .or a b, k, h => by
    simp only [Wish.deep] at h
    obtain ⟨k, rfl⟩ : ∃ j, k = j + 1 := ⟨k - 1, by omega⟩
    simp [Wish.d, D.fine, D.fines, Wish.fine a k (by omega), Wish.fine b k (by omega)]
/-! ### texts in rows -/
theorem eqvAll_strs : ∀ a b : List Str, PyData.eqvAll (a.map .str) (b.map .str) = decide (a = b)
  | [], [] => rfl
  | [], _ :: _ => rfl
  | _ :: _, [] => rfl
  | x :: a, y :: b => by
    simp only [List.map_cons, PyData.eqvAll, PyData.eqv, eqvAll_strs a b]
    by_cases h : x = y
    · subst h; simp
    · simp [h]
theorem eqT_sD {st : Sto} (a b : List Str) : eqT st (sD a) (sD b) = some (decide (a = b)) := by
  simp only [eqT, sD, pyT, D.py, pys_str, Option.map_some, PyData.depth, depth_strs, PyData.eqv, eqvAll_strs]
  simp
section
variable {T : Tab} {gc : Str → Option D} {n : Nat} {st : Sto} {P : D → Sto → Prop} {E : Str → Sto → Prop}
structure TrT (T : Tab) : Prop where
  joined : T.get "joined" = some k_p_joined
  tries_in : T.get "tries_in" = some k_p_tries_in
  tries_of : T.get "tries_of" = some k_p_tries_of
structure TryT (T : Tab) : Prop extends TrT T where
  paths : T.get "paths" = some k_p_paths
/-- a book that the machine can hold -/
structure Book.fits (b : Book) : Prop where
  few : b.mems.length ≤ 20
  fit : fitsIn 3 b.mems
theorem tries_of_at (R : TrT T) (hn : 6 < n) {b : Book} (hb : b.fits) (P : D → Sto → Prop) (E : Str → Sto → Prop) : wp (cfN T gc n "tries_of" [b.d]) st P E = P (.lst (rowsD b.rows)) st := by
  refine wp_det ?_ P E
  obtain ⟨n, rfl⟩ : ∃ k, n = k + 1 := ⟨n - 1, by omega⟩
  rw [w_fn R.tries_of]
  simp [k_p_tries_of, Book.d]
  have e0 : ("" : Str).length = 0 := by decide +kernel
  have := tries_in_at (T := T) (gc := gc) R.joined R.tries_in 3 n st b.mems "" [] [] hb.fit hb.few (by omega) (by omega) (by rw [e0]; omega) (by simp) (by simp)
  refine wp_go this ?_
  rintro _ _ ⟨rfl, rfl⟩
  rw [fnQ_rt rfl (fun i e => by cases e)]
  exact ⟨rfl, rfl⟩
theorem rows_few {b : Book} (hb : b.fits) : b.rows.length ≤ 3200000 := by
  have h := rowsIn_len 3 b.mems "" [] [] hb.fit
  have h2 : b.mems.length * 20 ^ 4 ≤ 20 * 20 ^ 4 := Nat.mul_le_mul_right _ hb.few
  have : (20 : Nat) * 20 ^ 4 = 3200000 := by decide
  unfold Book.rows
  omega
def dPath : D → D
  | .tup (d :: _) => d
  | _ => .non
theorem row_path (r : Row) : dPath r.d = .str r.path := rfl
theorem map_path : ∀ rs : List Row, (rowsD rs).map dPath = (rs.map Row.path).map .str
  | [] => rfl
  | r :: rs => by
    have := map_path rs
    simp [rowsD] at this ⊢
    exact ⟨row_path r, this⟩
theorem paths_at (R : TryT T) (hn : 7 < n) {b : Book} (hb : b.fits) (P : D → Sto → Prop) (E : Str → Sto → Prop) : wp (cfN T gc n "paths" [b.d]) st P E = P (sD (b.rows.map Row.path)) st := by
  refine wp_det ?_ P E
  obtain ⟨n, rfl⟩ : ∃ k, n = k + 1 := ⟨n - 1, by omega⟩
  rw [w_fn R.paths]
  simp [k_p_paths, tries_of_at R.toTrT (show 6 < n by omega) hb]
  rw [lc_pure (fun d => [some b.d, some d]) (fun d => true) dPath (by trivial) _ _ (fun d _ => rfl)]
  · rw [fnQ_rt rfl (fun i e => by cases e)]
    have := rows_few hb
    rw [filt_true, map_path]
    simp [sD]
    omega
  · intro d hd P
    simp
  · intro d hd _ P
    obtain ⟨r, hr, rfl⟩ := List.mem_map.mp hd
    simp [Row.d, dPath]
end
end TB
set_option Elab.async false
set_option linter.all false
set_option maxRecDepth 100000
set_option maxHeartbeats 4000000
/-! TB24: the paths of a book are unlike -/
namespace TB
open PySem PySem.Spec L2
def cs (x : Str) : List Nat := x.cps.toList
theorem cs_app (a b : Str) : cs (a ++ b) = cs a ++ cs b := by
  show (a.cps ++ b.cps).toList = _
  simp [cs]
theorem cs_inj {a b : Str} (h : cs a = cs b) : a = b := by
  cases a; cases b
  simp [cs] at h
  simp [h]
/-- a word without strokes -/
def plain (x : Str) : Prop := ∀ c ∈ cs x, c ≠ 47 ∧ c ≠ 61
def tailOk (r : List Nat) : Prop := r = [] ∨ ∃ c t, r = c :: t ∧ (c = 47 ∨ c = 61)
theorem head_eq : ∀ {a b r s : List Nat}, (∀ c ∈ a, c ≠ 47 ∧ c ≠ 61) → (∀ c ∈ b, c ≠ 47 ∧ c ≠ 61) → tailOk r → tailOk s → a ++ r = b ++ s → a = b
  | [], [], _, _, _, _, _, _, _ => rfl
  | [], y :: b, r, s, _, hb, hr, _, e => by
    have hy := hb y List.mem_cons_self
    rcases hr with rfl | ⟨c, t, rfl, hc⟩
    · simp at e
    · simp at e; omega
  | x :: a, [], r, s, ha, _, _, hs, e => by
    have hx := ha x List.mem_cons_self
    rcases hs with rfl | ⟨c, t, rfl, hc⟩
    · simp at e
    · simp at e; omega
  | x :: a, y :: b, r, s, ha, hb, hr, hs, e => by
    simp at e
    rw [e.1, head_eq (fun c h => ha c (List.mem_cons_of_mem _ h)) (fun c h => hb c (List.mem_cons_of_mem _ h)) hr hs e.2]
def numBack (l : List Nat) : Int := match l with
  | 45 :: t => -((t.foldl (fun a c => a * 10 + (c - 48)) 0 : Nat) : Int)
  | t => ((t.foldl (fun a c => a * 10 + (c - 48)) 0 : Nat) : Int)
theorem numBack_all : ∀ n : Fin 201, numBack (cs (numStr ((n.val : Int) - 100))) = (n.val : Int) - 100 := by decide +kernel
theorem numStr_inj {i j : Int} (hi : fitI i) (hj : fitI j) (h : numStr i = numStr j) : i = j := by
  have key : ∀ {i : Int}, fitI i → numBack (cs (numStr i)) = i := by
    intro i h
    have h1 := h.1
    have h2 := h.2
    have := numBack_all ⟨(i + 100).toNat, by omega⟩
    have e : (((i + 100).toNat : Nat) : Int) - 100 = i := by omega
    simp only [e] at this
    exact this
  rw [← key hi, ← key hj, h]
mutual
def Mem.pl : Mem → Prop
  | .try_ n _ _ _ => plain n
  | .many n _ _ _ ns _ => plain n ∧ ns.Nodup ∧ ∀ i ∈ ns, fitI i
  | .group n _ _ ms => plain n ∧ (ms.map Mem.name).Nodup ∧ plIn ms
def plIn : List Mem → Prop
  | [] => True
  | m :: ms => m.pl ∧ plIn ms
end
theorem pl_name : ∀ {m : Mem}, m.pl → plain m.name
  | .try_ _ _ _ _, h => by simp only [Mem.pl] at h; exact h
  | .many _ _ _ _ _ _, h => by simp only [Mem.pl] at h; exact h.1
  | .group _ _ _ _, h => by simp only [Mem.pl] at h; exact h.1
theorem plIn_mem : ∀ {ms : List Mem}, plIn ms → ∀ m ∈ ms, m.pl
  | [], _, _, h => by cases h
  | x :: ms, h, m, hm => by
    simp only [plIn] at h
    rcases List.mem_cons.mp hm with rfl | hm
    · exact h.1
    · exact plIn_mem h.2 m hm
theorem s_stroke : cs ("/" : Str) = [47] := by decide +kernel
theorem s_eq : cs ("=" : Str) = [61] := by decide +kernel
mutual
/-- what a path begins with -/
theorem Mem.rows_head : ∀ (m : Mem) (a : Str) (mk ws : List Str), ∀ r ∈ m.rows a mk ws, ∃ t, tailOk t ∧ cs r.path = cs a ++ (cs m.name ++ t)
  | .try_ n m w ds, a, mk, ws, r, h => by
    simp only [Mem.rows, List.mem_singleton] at h
    subst h
    exact ⟨[], .inl rfl, by simp [cs_app, Mem.name]⟩
  | .many n m w k ns ds, a, mk, ws, r, h => by
    simp only [Mem.rows, List.mem_map] at h
    obtain ⟨i, _, rfl⟩ := h
    exact ⟨61 :: cs (numStr i), .inr ⟨61, _, rfl, .inr rfl⟩, by simp [cs_app, Mem.name, s_eq]⟩
  | .group n m w ms, a, mk, ws, r, h => by
    simp only [Mem.rows] at h
    obtain ⟨t, e⟩ := rowsIn_head ms _ _ _ r h
    exact ⟨47 :: t, .inr ⟨47, _, rfl, .inl rfl⟩, by rw [e]; simp [cs_app, Mem.name, s_stroke]⟩
theorem rowsIn_head : ∀ (ms : List Mem) (a : Str) (mk ws : List Str), ∀ r ∈ rowsIn a mk ws ms, ∃ t, cs r.path = cs a ++ t
  | [], a, mk, ws, r, h => by simp [rowsIn] at h
  | m :: ms, a, mk, ws, r, h => by
    simp only [rowsIn, List.mem_append] at h
    rcases h with h | h
    · obtain ⟨t, _, e⟩ := Mem.rows_head m a mk ws r h
      exact ⟨_, e⟩
    · exact rowsIn_head ms a mk ws r h
end
theorem rowsIn_of : ∀ (ms : List Mem) (a : Str) (mk ws : List Str), ∀ r ∈ rowsIn a mk ws ms, ∃ m ∈ ms, r ∈ m.rows a mk ws
  | [], a, mk, ws, r, h => by simp [rowsIn] at h
  | m :: ms, a, mk, ws, r, h => by
    simp only [rowsIn, List.mem_append] at h
    rcases h with h | h
    · exact ⟨m, List.mem_cons_self, h⟩
    · obtain ⟨x, hx, hr⟩ := rowsIn_of ms a mk ws r h
      exact ⟨x, List.mem_cons_of_mem _ hx, hr⟩
mutual
theorem Mem.rows_nodup : ∀ (m : Mem) (a : Str) (mk ws : List Str), m.pl → ((m.rows a mk ws).map Row.path).Nodup
  | .try_ n m w ds, a, mk, ws, h => by simp [Mem.rows]
  | .many n m w k ns ds, a, mk, ws, h => by
    simp only [Mem.pl] at h
    simp only [Mem.rows, List.map_map]
    rw [List.nodup_iff_pairwise_ne] at h ⊢
    obtain ⟨_, h2, h3⟩ := h
    rw [List.pairwise_map]
    refine (List.Pairwise.and_mem.mp h2).imp fun {x y} hxy e => ?_
    obtain ⟨hx, hy, hne⟩ := hxy
    refine hne (numStr_inj (h3 x hx) (h3 y hy) (cs_inj ?_))
    have e' := congrArg cs e
    simpa [cs_app, Function.comp] using e'
  | .group n m w ms, a, mk, ws, h => by
    simp only [Mem.pl] at h
    simp only [Mem.rows]
    exact rowsIn_nodup ms _ _ _ h.2.1 h.2.2
theorem rowsIn_nodup : ∀ (ms : List Mem) (a : Str) (mk ws : List Str), (ms.map Mem.name).Nodup → plIn ms → ((rowsIn a mk ws ms).map Row.path).Nodup
  | [], a, mk, ws, _, _ => by simp [rowsIn]
  | m :: ms, a, mk, ws, hn, hp => by
    simp only [plIn] at hp
    simp only [List.map_cons, List.nodup_cons] at hn
    simp only [rowsIn, List.map_append]
    rw [List.nodup_append]
    refine ⟨Mem.rows_nodup m a mk ws hp.1, rowsIn_nodup ms a mk ws hn.2 hp.2, ?_⟩
    intro x hx y hy e
    subst e
    obtain ⟨r, hr, e1⟩ := List.mem_map.mp hx
    obtain ⟨r', hr', e2⟩ := List.mem_map.mp hy
    obtain ⟨m', hm', hr''⟩ := rowsIn_of ms a mk ws r' hr'
    obtain ⟨t, ht, p1⟩ := Mem.rows_head m a mk ws r hr
    obtain ⟨t', ht', p2⟩ := Mem.rows_head m' a mk ws r' hr''
    rw [e1] at p1
    rw [e2] at p2
    have := List.append_cancel_left (p1.symm.trans p2)
    have := head_eq (pl_name hp.1) (pl_name (plIn_mem hp.2 m' hm')) ht ht' this
    exact hn.1 (cs_inj this ▸ List.mem_map_of_mem hm')
end
/-- rows with unlike paths -/
theorem row_at {rs : List Row} (h : (rs.map Row.path).Nodup) : ∀ {r r' : Row}, r ∈ rs → r' ∈ rs → r.path = r'.path → r = r' := by
  induction rs with
  | nil => intro r r' h; cases h
  | cons x rs ih =>
    simp only [List.map_cons, List.nodup_cons] at h
    intro r r' hr hr' e
    rcases List.mem_cons.mp hr with e1 | hr2
    · rcases List.mem_cons.mp hr' with e2 | hr3
      · rw [e1, e2]
      · exact absurd (by rw [← e1, e]; exact List.mem_map_of_mem hr3) h.1
    · rcases List.mem_cons.mp hr' with e2 | hr3
      · exact absurd (by rw [← e2, ← e]; exact List.mem_map_of_mem hr2) h.1
      · exact ih h.2 hr2 hr3 e
theorem mem_filter_path {rs : List Row} (h : (rs.map Row.path).Nodup) (q : Row → Bool) {r : Row} (hr : r ∈ rs) : r.path ∈ (rs.filter q).map Row.path ↔ q r = true := by
  constructor
  · intro hm
    obtain ⟨r', hr', e⟩ := List.mem_map.mp hm
    rw [List.mem_filter] at hr'
    rw [← row_at h hr'.1 hr e]
    exact hr'.2
  · intro hq
    exact List.mem_map_of_mem (List.mem_filter.mpr ⟨hr, hq⟩)
/-! ### good books -/
theorem plain_nm : ∀ x ∈ nmZ, plain x := by
  intro x hx
  have key : ∀ x ∈ nmZ, (cs x).all (fun c => c != 47 && c != 61) = true := by decide +kernel
  intro c hc
  have := List.all_eq_true.mp (key x hx) c hc
  simpa using this
theorem nums_fit {ns : List Int} (h : okNums ns) : ∀ i ∈ ns, fitI i := by
  intro i hi
  have := h.2.2.1 i hi
  simp [nuL] at this
  unfold fitI
  omega
mutual
theorem Mem.ok_pl {sn : List Str} : ∀ (k : Nat) (m : Mem), m.ok sn k → m.name ∈ nmZ → m.pl
  | _, .try_ n _ _ _, h, hn => by simp only [Mem.pl]; exact plain_nm _ hn
  | _, .many n _ _ _ ns _, h, hn => by
    simp only [Mem.ok] at h
    simp only [Mem.pl]
    exact ⟨plain_nm _ hn, h.2.2.1.2.1, nums_fit h.2.2.1⟩
  | 0, .group _ _ _ _, h, _ => by simp only [Mem.ok] at h
  | k + 1, .group n _ _ ms, h, hn => by
    simp only [Mem.ok] at h
    simp only [Mem.pl]
    exact ⟨plain_nm _ hn, h.2.2.1, oksIn_pl k ms h.2.2.2.2 fun x hx => nm_nmZ _ (h.2.2.2.1 x hx)⟩
theorem oksIn_pl {sn : List Str} : ∀ (k : Nat) (ms : List Mem), oksIn sn k ms → (∀ x ∈ ms.map Mem.name, x ∈ nmZ) → plIn ms
  | _, [], _, _ => by simp only [plIn]
  | k, m :: ms, h, hn => by
    simp only [oksIn] at h
    simp only [plIn]
    exact ⟨Mem.ok_pl k m h.1 (hn _ (by simp)), oksIn_pl k ms h.2 fun x hx => hn x (by simp at hx ⊢; exact .inr hx)⟩
end
theorem nm_len : ∀ x ∈ nmZ, x.length ≤ 20 := by decide +kernel
mutual
theorem Mem.ok_fit {sn : List Str} : ∀ (k : Nat) (m : Mem), m.ok sn k → m.name ∈ nmZ → m.fit (k + 1)
  | _, .try_ n _ _ _, h, hn => by
    simp only [Mem.ok] at h
    have h1 := nm_len _ hn
    have h2 := h.1.m3
    have h3 := h.1.w3
    have h4 := h.2.1
    simp only [Mem.name] at h1
    simp only [Mem.fit]
    omega
  | _, .many n _ _ _ ns _, h, hn => by
    simp only [Mem.ok] at h
    have h1 := nm_len _ hn
    have h2 := h.1.m3
    have h3 := h.1.w3
    have h4 := h.2.2.2.1
    have h5 := h.2.2.1.2.2.2
    simp only [Mem.name] at h1
    simp only [Mem.fit]
    exact ⟨by omega, by omega, by omega, by omega, by omega, nums_fit h.2.2.1⟩
  | 0, .group _ _ _ _, h, _ => by simp only [Mem.ok] at h
  | k + 1, .group n _ _ ms, h, hn => by
    simp only [Mem.ok] at h
    have h1 := nm_len _ hn
    have h2 := h.1.m3
    have h3 := h.1.w3
    simp only [Mem.name] at h1
    simp only [Mem.fit]
    exact ⟨by omega, by omega, by omega, by omega, oksIn_fit k ms h.2.2.2.2 fun x hx => nm_nmZ _ (h.2.2.2.1 x hx)⟩
theorem oksIn_fit {sn : List Str} : ∀ (k : Nat) (ms : List Mem), oksIn sn k ms → (∀ x ∈ ms.map Mem.name, x ∈ nmZ) → fitsIn (k + 1) ms
  | _, [], _, _ => by simp only [fitsIn]
  | k, m :: ms, h, hn => by
    simp only [oksIn] at h
    simp only [fitsIn]
    exact ⟨Mem.ok_fit k m h.1 (hn _ (by simp)), oksIn_fit k ms h.2 fun x hx => hn x (by simp at hx ⊢; exact .inr hx)⟩
end
theorem Book.ok.fits {b : Book} (h : b.ok) : b.fits := ⟨by have := h.m4; omega, oksIn_fit 2 b.mems h.m1 h.m3⟩
theorem Book.ok.nodup {b : Book} (h : b.ok) : (b.rows.map Row.path).Nodup := rowsIn_nodup b.mems "" [] [] h.m2 (oksIn_pl 2 b.mems h.m1 h.m3)
end TB
set_option Elab.async false
set_option linter.all false
set_option maxRecDepth 100000
set_option maxHeartbeats 4000000
/-! TB25: wishes drawn; holds, chosen, simple, parting, try_at -/
namespace TB
open PySem PySem.Spec L2
section
variable {T : Tab} {gc : Str → Option D} {n : Nat} {st : Sto} {P : D → Sto → Prop} {E : Str → Sto → Prop}
theorem wishW_at (hT : T.get "_law_draw" = some k_draw) (hP : T.get "_law_pick" = some k_pick) (hW : T.get "_law_wish" = some k_wish) {ns : List Int} {i : Nat} : ∀ (left n k : Nat) (st : Sto), left + 3 < n → k + wc left < 1000000 → st[i]? = some (.lst (zeros k)) →
    wp (cfN T gc n "_law_wish" [.scr ns, .ref i, .int left]) st (fun d st1 => ∃ (w : Wish) (k' : Nat), d = w.d ∧ w.deep ≤ left + 1 ∧ w.ok ∧ k' ≤ k + wc left ∧ st1 = st.set i (.lst (zeros k'))) noX := by
  intro left
  induction left with
  | zero =>
    intro n k st hn hk hi
    obtain ⟨n, rfl⟩ : ∃ k, n = k + 1 := ⟨n - 1, by omega⟩
    have hw : wc 0 = 3 := rfl
    rw [w_fn hW]
    simp [k_wish]
    refine wp_go (draw_at hT (by omega) (by omega) hi (by omega)) ?_
    rintro _ _ ⟨j, h0, h1, rfl, rfl⟩
    refine wp_go (draw_at hT (by omega) (by omega) (tw_set hi _) (by omega)) ?_
    rintro _ _ ⟨j2, h0, h1, rfl, rfl⟩
    simp
    split
    · refine wp_go (pick_at hT hP (by omega) (by simp) (tw_set hi _) (by omega) (by simp)) ?_
      rintro d _ ⟨hd, rfl⟩
      rw [fnQ_rt (by simp) (fun i e => by cases e)]
      simp only [List.mem_cons, List.not_mem_nil, or_false] at hd
      rcases hd with rfl | rfl | rfl | rfl <;> exact ⟨.mark _, rfl, by simp [Wish.deep], by simp [Wish.ok, wmL], k + 1 + 1 + 1, by omega, by simp⟩
    · refine wp_go (pick_at hT hP (by omega) (by simp) (tw_set hi _) (by omega) (by simp)) ?_
      rintro d _ ⟨hd, rfl⟩
      rw [fnQ_rt (by simp) (fun i e => by cases e)]
      simp only [List.mem_cons, List.not_mem_nil, or_false] at hd
      rcases hd with rfl | rfl | rfl | rfl | rfl | rfl <;> exact ⟨.name _, rfl, by simp [Wish.deep], by simp [Wish.ok, wnL], k + 1 + 1 + 1, by omega, by simp⟩
  | succ left ih =>
    intro n k st hn hk hi
    obtain ⟨n, rfl⟩ : ∃ k, n = k + 1 := ⟨n - 1, by omega⟩
    have hw : wc (left + 1) = 3 + 2 * wc left := rfl
    have := wc_ge left
    rw [w_fn hW]
    simp [k_wish]
    refine wp_go (draw_at hT (by omega) (by omega) hi (by omega)) ?_
    rintro _ _ ⟨j, h0, h1, rfl, rfl⟩
    simp
    split
    · refine wp_go (draw_at hT (by omega) (by omega) (tw_set hi _) (by omega)) ?_
      rintro _ _ ⟨j2, h0, h1, rfl, rfl⟩
      simp
      split
      · refine wp_go (pick_at hT hP (by omega) (by simp) (tw_set hi _) (by omega) (by simp)) ?_
        rintro d _ ⟨hd, rfl⟩
        rw [fnQ_rt (by simp) (fun i e => by cases e)]
        simp only [List.mem_cons, List.not_mem_nil, or_false] at hd
        rcases hd with rfl | rfl | rfl | rfl <;> exact ⟨.mark _, rfl, by simp [Wish.deep], by simp [Wish.ok, wmL], k + 1 + 1 + 1, by omega, by simp⟩
      · refine wp_go (pick_at hT hP (by omega) (by simp) (tw_set hi _) (by omega) (by simp)) ?_
        rintro d _ ⟨hd, rfl⟩
        rw [fnQ_rt (by simp) (fun i e => by cases e)]
        simp only [List.mem_cons, List.not_mem_nil, or_false] at hd
        rcases hd with rfl | rfl | rfl | rfl | rfl | rfl <;> exact ⟨.name _, rfl, by simp [Wish.deep], by simp [Wish.ok, wnL], k + 1 + 1 + 1, by omega, by simp⟩
    · split
      · refine wp_go (draw_at hT (by omega) (by omega) (tw_set hi _) (by omega)) ?_
        rintro _ _ ⟨j2, h0, h1, rfl, rfl⟩
        simp
        split
        · refine wp_go (pick_at hT hP (by omega) (by simp) (tw_set hi _) (by omega) (by simp)) ?_
          rintro d _ ⟨hd, rfl⟩
          rw [fnQ_rt (by simp) (fun i e => by cases e)]
          simp only [List.mem_cons, List.not_mem_nil, or_false] at hd
          rcases hd with rfl | rfl | rfl | rfl <;> exact ⟨.mark _, rfl, by simp [Wish.deep], by simp [Wish.ok, wmL], k + 1 + 1 + 1, by omega, by simp⟩
        · refine wp_go (pick_at hT hP (by omega) (by simp) (tw_set hi _) (by omega) (by simp)) ?_
          rintro d _ ⟨hd, rfl⟩
          rw [fnQ_rt (by simp) (fun i e => by cases e)]
          simp only [List.mem_cons, List.not_mem_nil, or_false] at hd
          rcases hd with rfl | rfl | rfl | rfl | rfl | rfl <;> exact ⟨.name _, rfl, by simp [Wish.deep], by simp [Wish.ok, wnL], k + 1 + 1 + 1, by omega, by simp⟩
      · split
        · refine wp_go (ih n _ _ (by omega) (by omega) (tw_set hi _)) ?_
          rintro _ _ ⟨w, k1, rfl, hd, hok, hk1, rfl⟩
          rw [fnQ_rt (by simp) (fun i e => by cases e)]
          exact ⟨.not w, rfl, by simp only [Wish.deep]; omega, hok, k1, by omega, by simp⟩
        · refine wp_go (ih n _ _ (by omega) (by omega) (tw_set hi _)) ?_
          rintro _ _ ⟨w, k1, rfl, hd, hok, hk1, rfl⟩
          simp
          refine wp_go (pick_at hT hP (by omega) (by simp) (tw_set hi _) (by omega) (by simp)) ?_
          rintro d1 _ ⟨hd1, rfl⟩
          simp
          refine wp_go (ih n _ _ (by omega) (by omega) (tw_set hi _)) ?_
          rintro _ _ ⟨w2, k2, rfl, hd2, hok2, hk2, rfl⟩
          rw [fnQ_rt (by simp) (fun i e => by cases e)]
          simp only [List.mem_cons, List.not_mem_nil, or_false] at hd1
          rcases hd1 with rfl | rfl
          · exact ⟨.and w w2, rfl, by simp only [Wish.deep]; omega, ⟨hok, hok2⟩, k2, by omega, by simp⟩
          · exact ⟨.or w w2, rfl, by simp only [Wish.deep]; omega, ⟨hok, hok2⟩, k2, by omega, by simp⟩

theorem Wish.noref (w : Wish) (i : Nat) : w.d ≠ .ref i := by cases w <;> (intro e; cases e)
structure ChT (T : Tab) : Prop extends TrT T where
  holds : T.get "holds" = some k_p_holds
  chosen : T.get "chosen" = some k_p_chosen
  simple : T.get "simple" = some k_p_simple
  parting : T.get "parting" = some k_p_parting
theorem holds_at (hH : T.get "holds" = some k_p_holds) : ∀ (w : Wish) (n : Nat) (st : Sto) (p : Str) (ms : List Str) (P : D → Sto → Prop) (E : Str → Sto → Prop), w.deep < n → wp (cfN T gc n "holds" [w.d, .str p, sD ms]) st P E = P (.bl (w.holds p ms)) st
  | .mark x, n, st, p, ms, P, E, h => by
    obtain ⟨n, rfl⟩ : ∃ k, n = k + 1 := ⟨n - 1, by omega⟩
    rw [w_fn hH]
    simp [k_p_holds, Wish.d, Wish.holds]
    try rw [fnQ_rt rfl (fun i e => by cases e)]
  | .name x, n, st, p, ms, P, E, h => by
    obtain ⟨n, rfl⟩ : ∃ k, n = k + 1 := ⟨n - 1, by omega⟩
    rw [w_fn hH]
    simp [k_p_holds, Wish.d, Wish.holds]
    try rw [fnQ_rt rfl (fun i e => by cases e)]
  | .not w, n, st, p, ms, P, E, h => by
    simp only [Wish.deep] at h
    obtain ⟨n, rfl⟩ : ∃ k, n = k + 1 := ⟨n - 1, by omega⟩
    have ha := fun st P E => holds_at hH w n st p ms P E (by omega)
    rw [w_fn hH]
    simp [k_p_holds, Wish.d, Wish.holds, ha]
    try rw [fnQ_rt rfl (fun i e => by cases e)]
  | .and a b, n, st, p, ms, P, E, h => by
    simp only [Wish.deep] at h
    obtain ⟨n, rfl⟩ : ∃ k, n = k + 1 := ⟨n - 1, by omega⟩
    have ha := fun st P E => holds_at hH a n st p ms P E (by omega)
    have hb := fun st P E => holds_at hH b n st p ms P E (by omega)
    rw [w_fn hH]
    simp [k_p_holds, Wish.d, Wish.holds, ha, hb]
    cases a.holds p ms <;> simp <;> rw [fnQ_rt rfl (fun i e => by cases e)]
  | .or a b, n, st, p, ms, P, E, h => by
    simp only [Wish.deep] at h
    obtain ⟨n, rfl⟩ : ∃ k, n = k + 1 := ⟨n - 1, by omega⟩
    have ha := fun st P E => holds_at hH a n st p ms P E (by omega)
    have hb := fun st P E => holds_at hH b n st p ms P E (by omega)
    rw [w_fn hH]
    simp [k_p_holds, Wish.d, Wish.holds, ha, hb]
    cases a.holds p ms <;> simp <;> rw [fnQ_rt rfl (fun i e => by cases e)]
/-! ### chosen -/
def Wish.ch (w : Wish) (rs : List Row) : List Str := (rs.filter fun r => w.holds r.path r.marks).map Row.path
theorem strs_back (l : List Str) : (l.map D.str).map strOf = l := by
  rw [List.map_map]
  exact (List.map_congr_left fun x _ => rfl).trans (List.map_id l)
def dHold (w : Wish) : D → Bool
  | .tup [.str p, _, .tup ms, _, _] => w.holds p (ms.map strOf)
  | _ => false
theorem dHold_row (w : Wish) (r : Row) : dHold w r.d = w.holds r.path r.marks := by
  show w.holds r.path ((r.marks.map D.str).map strOf) = _
  rw [strs_back]
theorem filter_rows (q : Row → Bool) (c : D → Bool) (h : ∀ r : Row, c r.d = q r) : ∀ rs : List Row, (rowsD rs).filter c = rowsD (rs.filter q)
  | [] => rfl
  | r :: rs => by
    have ih := filter_rows q c h rs
    unfold rowsD at ih ⊢
    rw [List.map_cons]
    by_cases e : q r = true
    · rw [List.filter_cons_of_pos (by rw [h]; exact e), List.filter_cons_of_pos e, List.map_cons, ih]
    · rw [List.filter_cons_of_neg (by rw [h]; exact e), List.filter_cons_of_neg e, ih]
theorem ix_row0 {st : Sto} (r : Row) : idxT st r.d (.int 0) = some (.str r.path) := by simp [Row.d]
theorem ix_row1 {st : Sto} (r : Row) : idxT st r.d (.int 1) = some (.str r.group) := by simp [Row.d]
theorem ix_row2 {st : Sto} (r : Row) : idxT st r.d (.int 2) = some (sD r.marks) := by simp [Row.d]
theorem ix_row3 {st : Sto} (r : Row) : idxT st r.d (.int 3) = some (sD r.wants) := by simp [Row.d, at3]
theorem ix_row4 {st : Sto} (r : Row) : idxT st r.d (.int 4) = some (dsD r.deeds) := by simp [Row.d, at4]
theorem chosen_at (C : ChT T) (hn : 7 < n) {b : Book} (hb : b.fits) {w : Wish} (hw : w.deep + 1 < n) (P : D → Sto → Prop) (E : Str → Sto → Prop) : wp (cfN T gc n "chosen" [b.d, w.d]) st P E = P (sD (w.ch b.rows)) st := by
  refine wp_det ?_ P E
  obtain ⟨n, rfl⟩ : ∃ k, n = k + 1 := ⟨n - 1, by omega⟩
  rw [w_fn C.chosen]
  simp [k_p_chosen, tries_of_at C.toTrT (show 6 < n by omega) hb]
  rw [lc_pure (fun d => [some b.d, some w.d, some d]) (dHold w) dPath (by trivial) _ _ (fun d _ => rfl)]
  · rw [fnQ_rt rfl (fun i e => by cases e)]
    have := rows_few hb
    have h2 := List.length_filter_le (fun r : Row => w.holds r.path r.marks) b.rows
    rw [filter_rows (fun r => w.holds r.path r.marks) _ (dHold_row w), map_path]
    simp [sD, Wish.ch]
    omega
  · intro d hd P
    obtain ⟨r, hr, rfl⟩ := List.mem_map.mp hd
    simp [ix_row0, ix_row2, dHold_row, fun st P E => holds_at (gc := gc) C.holds w n st r.path r.marks P E (by omega)]
  · intro d hd _ P
    obtain ⟨r, hr, rfl⟩ := List.mem_map.mp hd
    simp [ix_row0, row_path]
/-! ### simple -/
theorem simple_at (hS : T.get "simple" = some k_p_simple) : ∀ (w : Wish) (n : Nat) (st : Sto), (w.deep < n → wp (cfN T gc n "simple" [w.d]) st (fun d st1 => d = (w.simp false).d ∧ st1 = st) noX) ∧ (w.deep + 1 < n → wp (cfN T gc n "simple" [(Wish.not w).d]) st (fun d st1 => d = (w.simp true).d ∧ st1 = st) noX)
  | .mark x, n, st => by
    refine ⟨fun h => ?_, fun h => ?_⟩
    · obtain ⟨n, rfl⟩ : ∃ k, n = k + 1 := ⟨n - 1, by omega⟩
      rw [w_fn hS]
      simp [k_p_simple, Wish.d, Wish.simp]
      rw [fnQ_rt rfl (fun i e => by cases e)]
      exact ⟨rfl, rfl⟩
    · obtain ⟨n, rfl⟩ : ∃ k, n = k + 1 := ⟨n - 1, by omega⟩
      rw [w_fn hS]
      simp [k_p_simple, Wish.d, Wish.simp]
      rw [fnQ_rt rfl (fun i e => by cases e)]
      exact ⟨rfl, rfl⟩
  | .name x, n, st => by
    refine ⟨fun h => ?_, fun h => ?_⟩
    · obtain ⟨n, rfl⟩ : ∃ k, n = k + 1 := ⟨n - 1, by omega⟩
      rw [w_fn hS]
      simp [k_p_simple, Wish.d, Wish.simp]
      rw [fnQ_rt rfl (fun i e => by cases e)]
      exact ⟨rfl, rfl⟩
    · obtain ⟨n, rfl⟩ : ∃ k, n = k + 1 := ⟨n - 1, by omega⟩
      rw [w_fn hS]
      simp [k_p_simple, Wish.d, Wish.simp]
      rw [fnQ_rt rfl (fun i e => by cases e)]
      exact ⟨rfl, rfl⟩
  | .not w, n, st => by
    refine ⟨fun h => ?_, fun h => ?_⟩
    · simp only [Wish.deep] at h
      exact (simple_at hS w n st).2 (by omega)
    · simp only [Wish.deep] at h
      obtain ⟨n, rfl⟩ : ∃ k, n = k + 1 := ⟨n - 1, by omega⟩
      rw [w_fn hS]
      simp [k_p_simple, Wish.d, Wish.simp]
      refine wp_go ((simple_at hS w n st).1 (by omega)) ?_
      rintro _ _ ⟨rfl, rfl⟩
      rw [fnQ_rt rfl (fun i e => absurd e (Wish.noref _ i))]
      exact ⟨rfl, rfl⟩
  | .and a b, n, st => by
    refine ⟨fun h => ?_, fun h => ?_⟩
    · simp only [Wish.deep] at h
      obtain ⟨n, rfl⟩ : ∃ k, n = k + 1 := ⟨n - 1, by omega⟩
      rw [w_fn hS]
      simp [k_p_simple, Wish.d, Wish.simp]
      refine wp_go ((simple_at hS a n st).1 (by omega)) ?_
      rintro _ _ ⟨rfl, rfl⟩
      try simp
      refine wp_go ((simple_at hS b n _).1 (by omega)) ?_
      rintro _ _ ⟨rfl, rfl⟩
      rw [fnQ_rt rfl (fun i e => by cases e)]
      exact ⟨rfl, rfl⟩
    · simp only [Wish.deep] at h
      obtain ⟨n, rfl⟩ : ∃ k, n = k + 1 := ⟨n - 1, by omega⟩
      rw [w_fn hS]
      simp [k_p_simple, Wish.d, Wish.simp, mergeG, putG, valG]
      refine wp_go ((simple_at hS a n _).2 (by omega)) ?_
      rintro _ _ ⟨rfl, rfl⟩
      try simp
      refine wp_go ((simple_at hS b n _).2 (by omega)) ?_
      rintro _ _ ⟨rfl, rfl⟩
      rw [fnQ_drop (fun i e => by cases e) (by simp [D.rlt, D.rlts, Wish.rlt]) (.inl (by simp))]
      simp
  | .or a b, n, st => by
    refine ⟨fun h => ?_, fun h => ?_⟩
    · simp only [Wish.deep] at h
      obtain ⟨n, rfl⟩ : ∃ k, n = k + 1 := ⟨n - 1, by omega⟩
      rw [w_fn hS]
      simp [k_p_simple, Wish.d, Wish.simp]
      refine wp_go ((simple_at hS a n st).1 (by omega)) ?_
      rintro _ _ ⟨rfl, rfl⟩
      try simp
      refine wp_go ((simple_at hS b n _).1 (by omega)) ?_
      rintro _ _ ⟨rfl, rfl⟩
      rw [fnQ_rt rfl (fun i e => by cases e)]
      exact ⟨rfl, rfl⟩
    · simp only [Wish.deep] at h
      obtain ⟨n, rfl⟩ : ∃ k, n = k + 1 := ⟨n - 1, by omega⟩
      rw [w_fn hS]
      simp [k_p_simple, Wish.d, Wish.simp, mergeG, putG, valG]
      refine wp_go ((simple_at hS a n _).2 (by omega)) ?_
      rintro _ _ ⟨rfl, rfl⟩
      try simp
      refine wp_go ((simple_at hS b n _).2 (by omega)) ?_
      rintro _ _ ⟨rfl, rfl⟩
      rw [fnQ_drop (fun i e => by cases e) (by simp [D.rlt, D.rlts, Wish.rlt]) (.inl (by simp))]
      simp
theorem simple_eq (hS : T.get "simple" = some k_p_simple) (w : Wish) (hw : w.deep < n) (P : D → Sto → Prop) (E : Str → Sto → Prop) : wp (cfN T gc n "simple" [w.d]) st P E = P (w.simp false).d st := wp_det ((simple_at hS w n st).1 hw) P E
/-! ### parting -/
def pathO : Option Row → D
  | none => .non
  | some r => .str r.path
def parts (v w : Wish) (r : Row) : Bool := v.holds r.path r.marks != w.holds r.path r.marks
theorem parting_at (C : ChT T) (hn : 7 < n) {b : Book} (hb : b.fits) {v w : Wish} (hv : v.deep + 1 < n) (hw : w.deep + 1 < n) (P : D → Sto → Prop) (E : Str → Sto → Prop) : wp (cfN T gc n "parting" [b.d, v.d, w.d]) st P E = P (pathO (b.rows.find? (parts v w))) st := by
  refine wp_det ?_ P E
  obtain ⟨n, rfl⟩ : ∃ k, n = k + 1 := ⟨n - 1, by omega⟩
  rw [w_fn C.parting]
  simp [k_p_parting, tries_of_at C.toTrT (show 6 < n by omega) hb]
  refine loop_inv (fun ds ρ st2 => ∃ (pre post : List Row) (x3 x4 x5 x6 x7 : Option D), b.rows = pre ++ post ∧ ds = rowsD post ∧ (∀ r ∈ pre, parts v w r = false) ∧ st2 = st ∧ ρ = [some b.d, some v.d, some w.d, x3, x4, x5, x6, x7]) ?_ ?_ ?_ _ _ _ ?_
  · intro ds ρ st2 _
    trivial
  · rintro d ds _ _ ⟨pre, post, x3, x4, x5, x6, x7, e1, e2, hp, rfl, rfl⟩
    cases post with
    | nil => cases e2
    | cons r post =>
      simp only [rowsD, List.map_cons, List.cons.injEq] at e2
      obtain ⟨rfl, rfl⟩ := e2
      refine ⟨_, rfl, ?_⟩
      have h1 := fun st P E => holds_at (gc := gc) C.holds v n st r.path r.marks P E (by omega)
      have h2 := fun st P E => holds_at (gc := gc) C.holds w n st r.path r.marks P E (by omega)
      simp [setD, h1, h2]
      by_cases hr : parts v w r = true
      · have hne : ¬ v.holds r.path r.marks = w.holds r.path r.marks := by simpa [parts] using hr
        simp [hne]
        rw [fnQ_rt rfl (fun i e => by cases e)]
        refine ⟨?_, rfl⟩
        rw [e1, List.find?_append, List.find?_eq_none.mpr (fun x hx => by rw [hp x hx]; simp), List.find?_cons_of_pos hr]
        rfl
      · have he : v.holds r.path r.marks = w.holds r.path r.marks := by simpa [parts] using hr
        simp [he]
        refine ⟨pre ++ [r], post, by simp [e1], rfl, ?_⟩
        intro x hx
        rcases List.mem_append.mp hx with h | h
        · exact hp x h
        · simp at h; subst h; simpa using hr
  · rintro _ _ ⟨pre, post, x3, x4, x5, x6, x7, e1, e2, hp, rfl, rfl⟩
    cases post with
    | cons _ _ => cases e2
    | nil =>
      simp
      rw [fnQ_rt rfl (fun i e => by cases e)]
      refine ⟨?_, rfl⟩
      rw [e1, List.append_nil, List.find?_eq_none.mpr (fun x hx => by rw [hp x hx]; simp)]
      rfl
  · exact ⟨[], b.rows, none, none, none, none, none, rfl, rfl, fun _ h => (by cases h), rfl, rfl⟩
/-! ### try_at, marks_of -/
structure LookT (T : Tab) : Prop extends TrT T where
  try_at : T.get "try_at" = some k_p_try_at
theorem filter_one {rs : List Row} (h : (rs.map Row.path).Nodup) {r : Row} (hr : r ∈ rs) : rs.filter (fun x => decide (x.path = r.path)) = [r] := by
  induction rs with
  | nil => cases hr
  | cons x rs ih =>
    simp only [List.map_cons, List.nodup_cons] at h
    by_cases e : x = r
    · subst e
      rw [List.filter_cons_of_pos (by simp), List.filter_eq_nil_iff.mpr]
      intro y hy
      simp
      intro e
      exact h.1 (e ▸ List.mem_map_of_mem hy)
    · have hr2 : r ∈ rs := by
        rcases List.mem_cons.mp hr with z | z
        · exact absurd z.symm e
        · exact z
      rw [List.filter_cons_of_neg, ih h.2 hr2]
      simp
      intro z
      exact h.1 (z ▸ List.mem_map_of_mem hr2)
def dIs (p : Str) : D → Bool
  | .tup (.str q :: _) => decide (q = p)
  | _ => false
theorem try_at_at (K : LookT T) (hn : 7 < n) {b : Book} (hb : b.fits) (hd : (b.rows.map Row.path).Nodup) {r : Row} (hr : r ∈ b.rows) (P : D → Sto → Prop) (E : Str → Sto → Prop) : wp (cfN T gc n "try_at" [b.d, .str r.path]) st P E = P r.d st := by
  refine wp_det ?_ P E
  obtain ⟨n, rfl⟩ : ∃ k, n = k + 1 := ⟨n - 1, by omega⟩
  rw [w_fn K.try_at]
  simp [k_p_try_at, tries_of_at K.toTrT (show 6 < n by omega) hb]
  rw [lc_pure (fun d => [some b.d, some (.str r.path), none, some d]) (dIs r.path) id (by trivial) _ _ (fun d _ => rfl)]
  · rw [filter_rows (fun x => decide (x.path = r.path)) _ (fun x => rfl), filter_one hd hr]
    simp [rowsD]
    rw [fnQ_rt rfl (fun i e => by cases e)]
    exact ⟨rfl, rfl⟩
  · intro d hd P
    obtain ⟨x, hx, rfl⟩ := List.mem_map.mp hd
    simp [ix_row0]
    rfl
  · intro d hd _ P
    simp
theorem marks_at (K : LookT T) (hM : T.get "marks_of" = some k_p_marks_of) (hn : 8 < n) {b : Book} (hb : b.fits) (hd : (b.rows.map Row.path).Nodup) {r : Row} (hr : r ∈ b.rows) (P : D → Sto → Prop) (E : Str → Sto → Prop) : wp (cfN T gc n "marks_of" [b.d, .str r.path]) st P E = P (sD r.marks) st := by
  refine wp_det ?_ P E
  obtain ⟨n, rfl⟩ : ∃ k, n = k + 1 := ⟨n - 1, by omega⟩
  rw [w_fn hM]
  simp [k_p_marks_of, try_at_at K (show 7 < n by omega) hb hd hr, ix_row2]
  rw [fnQ_rt rfl (fun i e => by cases e)]
  exact ⟨rfl, rfl⟩
end
end TB
set_option Elab.async false
set_option linter.all false
set_option maxRecDepth 100000
set_option maxHeartbeats 4000000
/-! TB26: sets of paths -/
namespace TB
open PySem PySem.Spec L2
theorem filter_path {rs : List Row} (q : Row → Bool) (p : Str → Bool) (h : ∀ r ∈ rs, p r.path = q r) : (rs.map Row.path).filter p = (rs.filter q).map Row.path := by
  rw [List.filter_map]
  congr 1
  exact List.filter_congr fun r hr => h r hr
theorem ch_not {rs : List Row} (hd : (rs.map Row.path).Nodup) (v : Wish) : (rs.map Row.path).filter (fun x => decide (x ∉ v.ch rs)) = (Wish.not v).ch rs := by
  refine filter_path _ _ fun r hr => ?_
  have := mem_filter_path hd (fun r => v.holds r.path r.marks) hr
  simp only [Wish.holds]
  rw [show decide (r.path ∉ v.ch rs) = !decide (r.path ∈ v.ch rs) from by simp]
  congr 1
  rw [Bool.eq_iff_iff, decide_eq_true_eq]
  exact this
theorem ch_and {rs : List Row} (hd : (rs.map Row.path).Nodup) (v w : Wish) : (v.ch rs).filter (fun x => decide (x ∈ w.ch rs)) = (Wish.and v w).ch rs := by
  unfold Wish.ch
  rw [filter_path (fun r => w.holds r.path r.marks) _ (fun r hr => ?_), List.filter_filter]
  · simp only [Wish.holds]
    congr 1
    exact List.filter_congr fun r _ => Bool.and_comm _ _
  · rw [Bool.eq_iff_iff, decide_eq_true_eq]
    exact mem_filter_path hd _ (List.mem_filter.mp hr).1
theorem ch_or {rs : List Row} (hd : (rs.map Row.path).Nodup) (v w : Wish) : (rs.map Row.path).filter (fun x => decide (x ∈ v.ch rs ++ w.ch rs)) = (Wish.or v w).ch rs := by
  refine filter_path _ _ fun r hr => ?_
  have h1 := mem_filter_path hd (fun r => v.holds r.path r.marks) hr
  have h2 := mem_filter_path hd (fun r => w.holds r.path r.marks) hr
  rw [Bool.eq_iff_iff, decide_eq_true_eq, List.mem_append]
  simp only [Wish.holds, Bool.or_eq_true]
  exact or_congr h1 h2
theorem ch_same {rs : List Row} {v w : Wish} (h : ∀ r ∈ rs, v.holds r.path r.marks = w.holds r.path r.marks) : v.ch rs = w.ch rs ∧ rs.find? (parts v w) = none := by
  refine ⟨?_, ?_⟩
  · unfold Wish.ch
    rw [List.filter_congr h]
  · rw [List.find?_eq_none]
    intro r hr
    simp [parts, h r hr]
theorem due_parts {rs : List Row} (hd : (rs.map Row.path).Nodup) (v w : Wish) : (rs.map Row.path).filter (fun x => decide (x ∈ v.ch rs) != decide (x ∈ w.ch rs)) = (rs.filter (parts v w)).map Row.path := by
  refine filter_path _ _ fun r hr => ?_
  have h1 := mem_filter_path hd (fun r => v.holds r.path r.marks) hr
  have h2 := mem_filter_path hd (fun r => w.holds r.path r.marks) hr
  have e1 : decide (r.path ∈ v.ch rs) = v.holds r.path r.marks := by rw [Bool.eq_iff_iff, decide_eq_true_eq]; exact h1
  have e2 : decide (r.path ∈ w.ch rs) = w.holds r.path r.marks := by rw [Bool.eq_iff_iff, decide_eq_true_eq]; exact h2
  rw [e1, e2]
  rfl
theorem ch_self {rs : List Row} (hd : (rs.map Row.path).Nodup) (v : Wish) : (rs.map Row.path).filter (fun x => decide (x ∈ v.ch rs)) = v.ch rs := by
  refine filter_path _ _ fun r hr => ?_
  rw [Bool.eq_iff_iff, decide_eq_true_eq]
  exact mem_filter_path hd _ hr
theorem ch_mem {rs : List Row} (hd : (rs.map Row.path).Nodup) (v : Wish) {r : Row} (hr : r ∈ rs) : decide (r.path ∈ v.ch rs) = v.holds r.path r.marks := by
  rw [Bool.eq_iff_iff, decide_eq_true_eq]
  exact mem_filter_path hd _ hr
theorem pathO_eq {st : Sto} (o : Option Row) : eqT st (pathO o) (pathO o) = some true := by
  cases o <;> exact eqT_refl (k := 0) (by simp [pathO, D.fine]) (by omega)
theorem first_of (rs : List Row) {st : Sto} : idxT st (.lst ((rs.map Row.path).map .str ++ [.non])) (.int 0) = some (pathO rs.head?) := by
  cases rs <;> simp [pathO]
theorem parts_comm (v w : Wish) : parts v w = parts w v := by
  funext r
  unfold parts
  cases v.holds r.path r.marks <;> cases w.holds r.path r.marks <;> rfl
theorem find_filter (rs : List Row) (q : Row → Bool) : rs.find? q = (rs.filter q).head? := by
  rw [List.head?_filter]
@[simp] theorem eqT_tS {st : Sto} (a b : List Str) : eqT st (.tup (a.map .str)) (.tup (b.map .str)) = some (decide (a = b)) := eqT_sD a b
theorem bt_tup (is : List Nat) (ds : List D) (ρ : Lo) : bindT (.tup is) (.tup ds) ρ = if ds.length = is.length then some (setD ρ is ds) else none := rfl
theorem bt_lst (is : List Nat) (ds : List D) (ρ : Lo) : bindT (.tup is) (.lst ds) ρ = if ds.length = is.length then some (setD ρ is ds) else none := rfl
def inS (a : List Str) : D → Bool
  | .str x => decide (x ∈ a)
  | _ => false
theorem ch_len (w : Wish) (rs : List Row) : (w.ch rs).length ≤ rs.length := by
  unfold Wish.ch
  rw [List.length_map]
  exact List.length_filter_le _ _
section
variable {α : Type} {src : Src} {i : Nat} {own : List Nat} {tc : Lo → M Bool} {me : Lo → M D} {ρ : Lo} {st : Sto} {E : Str → Sto → Prop}
theorem lcm (f : α → D) (c : α → Bool) (g : α → D) (hs : src.ok st) : ∀ (l : List α) (P : List D → Sto → Prop), (∀ x ∈ l, ∀ P, wp (tc ((wipeD ρ own).set i (some (f x)))) st P noX = P (c x) st) → (∀ x ∈ l, c x = true → ∀ P, wp (me ((wipeD ρ own).set i (some (f x)))) st P noX = P (g x) st) → wp (lcG src (.one i) own tc me ρ (l.map f)) st P E = P ((l.filter c).map g) st
  | [], P, hc, hm => lc_nil hs
  | x :: l, P, hc, hm => by
    rw [List.map_cons, lc_cons _ _ hs, q_bt_one, lk_some, hc x List.mem_cons_self]
    have ih := fun P => lcm f c g hs l P (fun e h => hc e (List.mem_cons_of_mem _ h)) (fun e h => hm e (List.mem_cons_of_mem _ h))
    by_cases h : c x = true
    · rw [if_pos h, hm x List.mem_cons_self h, ih, List.filter_cons_of_pos h, List.map_cons]
    · rw [if_neg h, ih, List.filter_cons_of_neg h]
end
def unT : D → List D
  | .tup l => l
  | _ => []
@[simp] theorem src_end {st : Sto} {l : List D} : srcQ (st ++ [.lst l]) (.ref st.length) = some ⟨l, some (st.length, .lst l)⟩ := by simp [srcQ]
theorem srcok_end {st : Sto} {l : List D} : Src.ok ⟨l, some (st.length, .lst l)⟩ (st ++ [.lst l]) := by
  show (st ++ [MO.lst l])[st.length]? = some (.lst l)
  simp
end TB
set_option Elab.async false
set_option linter.all false
set_option maxRecDepth 100000
set_option maxHeartbeats 4000000
/-! TB27: what the laws compare with: _law_same, _law_tries, _law_holds, _law_simple -/
namespace TB
open PySem PySem.Spec L2
def k_same : Def := ⟨"_law_same", ["got", "due"], ["got", "due", "one", "other"],
  (.cons (.ife (.cmp .Is (.var 1) .non)
   (.cons (.ret (.cmp .Is (.var 0) .non))
   .nil)
   .nil)
  (.cons (.ife (.isi .bool (.var 1))
   (.cons (.ret (.band (.cons (.isi .bool (.var 0)) (.cons (.cmp .Eq (.var 0) (.var 1)) .nil))))
   .nil)
   .nil)
  (.cons (.ife (.isi .tuple (.var 1))
   (.cons (.ife (.bor (.cons (.not (.isi .tuple (.var 0))) (.cons (.cmp .NotEq (.blt .len (.var 0)) (.blt .len (.var 1))) .nil)))
    (.cons (.ret (.bl false))
    .nil)
    .nil)
   (.cons (.ret (.blt .all (.lc false [("one", 2), ("other", 3)] (.tup [2, 3]) (.zip (.var 0) (.var 1)) .none (.call "_law_same" 2 (.cons (.var 2) (.cons (.var 3) .nil))))))
   .nil))
   .nil)
  (.cons (.ife (.isi .str (.var 1))
   (.cons (.ret (.band (.cons (.isi .str (.var 0)) (.cons (.cmp .Eq (.var 0) (.var 1)) .nil))))
   .nil)
   .nil)
  (.cons (.ret (.band (.cons (.isi .int (.var 0)) (.cons (.not (.isi .bool (.var 0))) (.cons (.cmp .Eq (.var 0) (.var 1)) .nil)))))
  .nil)))))⟩

def k_both : Def := ⟨"_law_both", ["one", "other"], ["one", "other", "word"],
  (.cons (.ret (.bin (.add false) (.var 0) (.blt .tuple (.lc false [("word", 2)] (.one 2) (.seq (.var 1)) (.some (.cmp .NotIn (.var 2) (.var 0))) (.var 2)))))
  .nil)⟩

def k_tries : Def := ⟨"_law_tries", ["members", "ahead", "marks", "wants"], ["members", "ahead", "marks", "wants", "got", "one", "mine", "need", "number", "path"],
  (.cons (.asg (.one 4) (.lst true .nil))
  (.cons (.for_ (.one 5) (.seq (.var 0))
   (.cons (.par 6 7 (.call "_law_both" 2 (.cons (.var 2) (.cons (.idx (.var 5) (.int 2)) .nil))) (.call "_law_both" 2 (.cons (.var 3) (.cons (.idx (.var 5) (.int 3)) .nil))))
   (.cons (.ife (.cmp .Eq (.idx (.var 5) (.int 0)) (.str "group"))
    (.cons (.asg (.one 4) (.bin (.add true) (.var 4) (.call "_law_tries" 4 (.cons (.idx (.var 5) (.int 4)) (.cons (.bin (.add false) (.bin (.add false) (.var 1) (.idx (.var 5) (.int 1))) (.str "/")) (.cons (.var 6) (.cons (.var 7) .nil)))))))
    .nil)
    (.cons (.ife (.cmp .Eq (.idx (.var 5) (.int 0)) (.str "try"))
     (.cons (.expr (.bm .append (.var 4) (.cons (.tup (.cons (.bin (.add false) (.var 1) (.idx (.var 5) (.int 1))) (.cons (.var 1) (.cons (.var 6) (.cons (.var 7) (.cons (.idx (.var 5) (.int 4)) .nil)))))) .nil)))
     .nil)
     (.cons (.for_ (.one 8) (.seq (.idx (.var 5) (.int 5)))
      (.cons (.asg (.one 9) (.bin (.add false) (.bin (.add false) (.bin (.add false) (.var 1) (.idx (.var 5) (.int 1))) (.str "=")) (.blt .str (.var 8))))
      (.cons (.expr (.bm .append (.var 4) (.cons (.tup (.cons (.var 9) (.cons (.var 1) (.cons (.var 6) (.cons (.var 7) (.cons (.bin (.add false) (.tup (.cons (.tup (.cons (.str "set") (.cons (.idx (.var 5) (.int 4)) (.cons (.var 8) .nil)))) .nil)) (.idx (.var 5) (.int 6))) .nil)))))) .nil)))
      .nil)))
     .nil))
    .nil))
   .nil)))
  (.cons (.ret (.var 4))
  .nil)))⟩

def k_holds : Def := ⟨"_law_holds", ["wish", "path", "marks"], ["wish", "path", "marks", "some", "one"],
  (.cons (.ife (.cmp .In (.idx (.var 0) (.int 0)) (.tup (.cons (.str "mark") (.cons (.str "name") .nil))))
   (.cons (.ret (.ite (.cmp .Eq (.idx (.var 0) (.int 0)) (.str "mark")) (.cmp .In (.idx (.var 0) (.int 1)) (.var 2)) (.cmp .In (.idx (.var 0) (.int 1)) (.var 1))))
   .nil)
   .nil)
  (.cons (.asg (.one 3) (.lc false [("one", 4)] (.one 4) (.seq (.slc false (.var 0) (.some (.int 1)) .none)) .none (.call "_law_holds" 3 (.cons (.var 4) (.cons (.var 1) (.cons (.var 2) .nil))))))
  (.cons (.ife (.cmp .Eq (.idx (.var 0) (.int 0)) (.str "not"))
   (.cons (.ret (.not (.idx (.var 3) (.int 0))))
   .nil)
   .nil)
  (.cons (.ret (.ite (.cmp .Eq (.idx (.var 0) (.int 0)) (.str "and")) (.band (.cons (.idx (.var 3) (.int 0)) (.cons (.idx (.var 3) (.int 1)) .nil))) (.bor (.cons (.idx (.var 3) (.int 0)) (.cons (.idx (.var 3) (.int 1)) .nil)))))
  .nil))))⟩

def k_is_simple : Def := ⟨"_law_is_simple", ["wish"], ["wish"],
  (.cons (.ife (.cmp .In (.idx (.var 0) (.int 0)) (.tup (.cons (.str "mark") (.cons (.str "name") .nil))))
   (.cons (.ret (.bl true))
   .nil)
   .nil)
  (.cons (.ife (.cmp .Eq (.idx (.var 0) (.int 0)) (.str "not"))
   (.cons (.ret (.cmp .In (.idx (.idx (.var 0) (.int 1)) (.int 0)) (.tup (.cons (.str "mark") (.cons (.str "name") .nil)))))
   .nil)
   .nil)
  (.cons (.ret (.band (.cons (.call "_law_is_simple" 1 (.cons (.idx (.var 0) (.int 1)) .nil)) (.cons (.call "_law_is_simple" 1 (.cons (.idx (.var 0) (.int 2)) .nil)) .nil))))
  .nil)))⟩

def k_simple : Def := ⟨"_law_simple", ["wish", "is_not"], ["wish", "is_not", "sign"],
  (.cons (.ife (.cmp .In (.idx (.var 0) (.int 0)) (.tup (.cons (.str "mark") (.cons (.str "name") .nil))))
   (.cons (.ret (.ite (.var 1) (.tup (.cons (.str "not") (.cons (.var 0) .nil))) (.var 0)))
   .nil)
   .nil)
  (.cons (.ife (.cmp .Eq (.idx (.var 0) (.int 0)) (.str "not"))
   (.cons (.ret (.call "_law_simple" 2 (.cons (.idx (.var 0) (.int 1)) (.cons (.not (.var 1)) .nil))))
   .nil)
   .nil)
  (.cons (.asg (.one 2) (.ite (.not (.var 1)) (.idx (.var 0) (.int 0)) (.idx (.dsp [.inr "and", .inr "or"] (.cons (.str "or") (.cons (.str "and") .nil))) (.idx (.var 0) (.int 0)))))
  (.cons (.ret (.tup (.cons (.var 2) (.cons (.call "_law_simple" 2 (.cons (.idx (.var 0) (.int 1)) (.cons (.var 1) .nil))) (.cons (.call "_law_simple" 2 (.cons (.idx (.var 0) (.int 2)) (.cons (.var 1) .nil))) .nil)))))
  .nil))))⟩

mutual
def D.tfine : Nat → D → Bool
  | _, .non => true
  | _, .bl _ => true
  | _, .int _ => true
  | _, .str _ => true
  | 0, .tup _ => false
  | k + 1, .tup l => decide (l.length ≤ 4000000) && D.tfines k l
  | _, _ => false
def D.tfines : Nat → List D → Bool
  | _, [] => true
  | k, d :: l => D.tfine k d && D.tfines k l
end
theorem tfines_mem : ∀ {k : Nat} {l : List D}, D.tfines k l = true → ∀ x ∈ l, x.tfine k = true
  | _, [], _, _, h => by cases h
  | k, d :: l, h, x, hx => by
    simp only [D.tfines, Bool.and_eq_true] at h
    rcases List.mem_cons.mp hx with rfl | hx
    · exact h.1
    · exact tfines_mem h.2 x hx
theorem tfines_of : ∀ {k : Nat} {l : List D}, (∀ x ∈ l, x.tfine k = true) → D.tfines k l = true
  | _, [], _ => by simp [D.tfines]
  | k, d :: l, h => by
    simp only [D.tfines, Bool.and_eq_true]
    exact ⟨h d List.mem_cons_self, tfines_of fun x hx => h x (List.mem_cons_of_mem _ hx)⟩
mutual
theorem tfine_fine : ∀ (k : Nat) (d : D), d.tfine k = true → d.fine k = true
  | k, .non, _ => by simp [D.fine]
  | k, .bl _, _ => by simp [D.fine]
  | k, .int _, _ => by simp [D.fine]
  | k, .str _, _ => by simp [D.fine]
  | 0, .tup _, h => by simp [D.tfine] at h
  | k + 1, .tup l, h => by
    simp only [D.tfine, Bool.and_eq_true] at h
    rw [D.fine]; exact tfines_fine k l h.2
  | k, .lst _, h => by simp [D.tfine] at h
  | k, .ref _, h => by simp [D.tfine] at h
  | k, .fn _, h => by simp [D.tfine] at h
  | k, .scr _, h => by simp [D.tfine] at h
theorem tfines_fine : ∀ (k : Nat) (l : List D), D.tfines k l = true → D.fines k l = true
  | k, [], _ => by simp [D.fines]
  | k, d :: l, h => by
    simp only [D.tfines, Bool.and_eq_true] at h
    simp only [D.fines, Bool.and_eq_true]
    exact ⟨tfine_fine k d h.1, tfines_fine k l h.2⟩
end
theorem tf_strs (k : Nat) (l : List Str) : D.tfines k (l.map .str) = true := tfines_of fun x hx => by
  obtain ⟨y, _, rfl⟩ := List.mem_map.mp hx
  simp [D.tfine]
theorem tf_sD (k : Nat) {l : List Str} (h : l.length ≤ 4000000) : (sD l).tfine (k + 1) = true := by simp only [sD, D.tfine, List.length_map, decide_eq_true h, Bool.true_and]; exact tf_strs k l
theorem Wish.tf : ∀ (w : Wish) (k : Nat), w.deep ≤ k → w.d.tfine k = true
  | .mark x, k, h => by
    obtain ⟨k, rfl⟩ : ∃ j, k = j + 1 := ⟨k - 1, by simp [Wish.deep] at h; omega⟩
    simp [Wish.d, D.tfine, D.tfines]
  | .name x, k, h => by
    obtain ⟨k, rfl⟩ : ∃ j, k = j + 1 := ⟨k - 1, by simp [Wish.deep] at h; omega⟩
    simp [Wish.d, D.tfine, D.tfines]
  | .not w, k, h => by
    simp only [Wish.deep] at h
    obtain ⟨k, rfl⟩ : ∃ j, k = j + 1 := ⟨k - 1, by omega⟩
    simp [Wish.d, D.tfine, D.tfines, Wish.tf w k (by omega)]
  | .and a b, k, h => by
    simp only [Wish.deep] at h
    obtain ⟨k, rfl⟩ : ∃ j, k = j + 1 := ⟨k - 1, by omega⟩
    simp [Wish.d, D.tfine, D.tfines, Wish.tf a k (by omega), Wish.tf b k (by omega)]
  | .or a b, k, h => by
    simp only [Wish.deep] at h
    obtain ⟨k, rfl⟩ : ∃ j, k = j + 1 := ⟨k - 1, by omega⟩
    simp [Wish.d, D.tfine, D.tfines, Wish.tf a k (by omega), Wish.tf b k (by omega)]
def firstT : D → Lo → Lo
  | .tup [x, y], ρ => (ρ.set 2 (some x)).set 3 (some y)
  | _, ρ => ρ
theorem isnon_non : D.isNon .non = true := rfl
theorem zip_self (l : List D) : zipD l l = l.map fun x => .tup [x, x] := by
  unfold zipD
  rw [List.zip_eq_zipWith, List.zipWith_self, List.map_map]
  rfl
section
variable {T : Tab} {gc : Str → Option D} {n : Nat} {st : Sto} {P : D → Sto → Prop} {E : Str → Sto → Prop}
theorem same_at (hS : T.get "_law_same" = some k_same) : ∀ (k n : Nat) (d : D) (st : Sto) (P : D → Sto → Prop) (E : Str → Sto → Prop), d.tfine k = true → k < n → k ≤ 64 → wp (cfN T gc n "_law_same" [d, d]) st P E = P (.bl true) st := by
  intro k
  induction k with
  | zero =>
    intro n d st P E h hn hk
    obtain ⟨n, rfl⟩ : ∃ k, n = k + 1 := ⟨n - 1, by omega⟩
    have e := eqT_refl (st := st) (tfine_fine _ d h) hk
    rw [w_fn hS]
    cases d with
    | non => simp [k_same, isnon_non]
    | bl b => simp [k_same]
    | int i => simp [k_same]
    | str x => simp [k_same]
    | tup l => simp [D.tfine] at h
    | lst l => simp [D.tfine] at h
    | ref l => simp [D.tfine] at h
    | fn l => simp [D.tfine] at h
    | scr l => simp [D.tfine] at h
  | succ k ih =>
    intro n d st P E h hn hk
    obtain ⟨n, rfl⟩ : ∃ k, n = k + 1 := ⟨n - 1, by omega⟩
    rw [w_fn hS]
    cases d with
    | non => simp [k_same, isnon_non]
    | bl b => simp [k_same]
    | int i => simp [k_same]
    | str x => simp [k_same]
    | lst l => simp [D.tfine] at h
    | ref l => simp [D.tfine] at h
    | fn l => simp [D.tfine] at h
    | scr l => simp [D.tfine] at h
    | tup l =>
      simp only [D.tfine, Bool.and_eq_true, decide_eq_true_eq] at h
      have hl : (l.length ≤ 16777216) = True := eq_true (by omega)
      simp [k_same, srcZ, zip_self]
      rw [lc_map (fun d => firstT d [some (.tup l), some (.tup l), none, none]) (fun _ => .bl true) (by trivial)]
      · rw [List.map_map, show ((fun _ => D.bl true) ∘ fun x => D.tup [x, x]) = (fun x : D => D.bl ((fun _ => true) x)) from rfl, boolsOf_map (fun _ => true) l]
        have ha : (l.all fun _ => true) = true := List.all_eq_true.mpr fun _ _ => rfl
        simp [hl, ha]
      · intro d hd
        obtain ⟨x, hx, rfl⟩ := List.mem_map.mp hd
        rfl
      · intro d hd P
        obtain ⟨x, hx, rfl⟩ := List.mem_map.mp hd
        simp [firstT]
        rw [ih n x _ _ _ (tfines_mem h.2 x hx) (by omega) (by omega)]
theorem both_at (hJ : T.get "_law_both" = some k_both) (hn : 0 < n) (a b : List Str) (hl : a.length + b.length ≤ 1000000) : wp (cfN T gc n "_law_both" [sD a, sD b]) st P E = P (sD (joinL a b)) st := by
  obtain ⟨n, rfl⟩ : ∃ k, n = k + 1 := ⟨n - 1, by omega⟩
  rw [w_fn hJ]
  simp [k_both, sD]
  rw [lc_pure (fun d => [some (.tup (a.map .str)), some (.tup (b.map .str)), some d]) (fun d => match d with | .str x => decide (x ∉ a) | _ => true) id (by trivial) _ _ (fun d _ => rfl)]
  · have hf := List.length_filter_le (fun x => decide (x ∉ a)) b
    rw [List.map_id, filter_str (fun x => decide (x ∉ a)) _ (fun x => rfl)]
    rw [fnQ_rt rfl (fun i e => by cases e)]
    have hf2 := List.length_filter_le (fun x => !decide (x ∈ a)) b
    simp [joinL]
    exact ⟨fun h => h.2.2, fun h => ⟨by omega, by omega, h⟩⟩
  · intro d hd P
    obtain ⟨x, hx, rfl⟩ := List.mem_map.mp hd
    simp
  · intro d hd _ P
    simp
/-! ### _law_holds -/
theorem lholds_at (hH : T.get "_law_holds" = some k_holds) : ∀ (w : Wish) (n : Nat) (st : Sto) (p : Str) (ms : List Str) (P : D → Sto → Prop) (E : Str → Sto → Prop), w.deep < n → wp (cfN T gc n "_law_holds" [w.d, .str p, sD ms]) st P E = P (.bl (w.holds p ms)) st
  | .mark x, n, st, p, ms, P, E, h => by
    obtain ⟨n, rfl⟩ : ∃ k, n = k + 1 := ⟨n - 1, by omega⟩
    rw [w_fn hH]
    simp [k_holds, Wish.d, Wish.holds]
    try rw [fnQ_rt rfl (fun i e => by cases e)]
  | .name x, n, st, p, ms, P, E, h => by
    obtain ⟨n, rfl⟩ : ∃ k, n = k + 1 := ⟨n - 1, by omega⟩
    rw [w_fn hH]
    simp [k_holds, Wish.d, Wish.holds]
    try rw [fnQ_rt rfl (fun i e => by cases e)]
  | .not w, n, st, p, ms, P, E, h => by
    simp only [Wish.deep] at h
    obtain ⟨n, rfl⟩ : ∃ k, n = k + 1 := ⟨n - 1, by omega⟩
    have ha := fun st P E => lholds_at hH w n st p ms P E (by omega)
    rw [w_fn hH]
    simp [k_holds, Wish.d, Wish.holds]
    rw [show cutG [D.str "not", w.d] (some 1) none = [w.d] from rfl, lc_cons _ _ (by trivial)]
    simp [ha, wipeD]
    rw [lc_nil (by trivial)]
    simp
    try rw [fnQ_rt rfl (fun i e => by cases e)]
  | .and a b, n, st, p, ms, P, E, h => by
    simp only [Wish.deep] at h
    obtain ⟨n, rfl⟩ : ∃ k, n = k + 1 := ⟨n - 1, by omega⟩
    have ha := fun st P E => lholds_at hH a n st p ms P E (by omega)
    have hb := fun st P E => lholds_at hH b n st p ms P E (by omega)
    rw [w_fn hH]
    simp [k_holds, Wish.d, Wish.holds]
    rw [show cutG [D.str "and", a.d, b.d] (some 1) none = [a.d, b.d] from rfl, lc_cons _ _ (by trivial)]
    simp [ha, wipeD]
    rw [lc_cons _ _ (by trivial)]
    simp [hb, wipeD]
    rw [lc_nil (by trivial)]
    cases a.holds p ms <;> simp <;> try rw [fnQ_rt rfl (fun i e => by cases e)]
  | .or a b, n, st, p, ms, P, E, h => by
    simp only [Wish.deep] at h
    obtain ⟨n, rfl⟩ : ∃ k, n = k + 1 := ⟨n - 1, by omega⟩
    have ha := fun st P E => lholds_at hH a n st p ms P E (by omega)
    have hb := fun st P E => lholds_at hH b n st p ms P E (by omega)
    rw [w_fn hH]
    simp [k_holds, Wish.d, Wish.holds]
    rw [show cutG [D.str "or", a.d, b.d] (some 1) none = [a.d, b.d] from rfl, lc_cons _ _ (by trivial)]
    simp [ha, wipeD]
    rw [lc_cons _ _ (by trivial)]
    simp [hb, wipeD]
    rw [lc_nil (by trivial)]
    cases a.holds p ms <;> simp <;> try rw [fnQ_rt rfl (fun i e => by cases e)]
/-! ### _law_is_simple, _law_simple -/
def Wish.leaf : Wish → Bool
  | .mark _ => true
  | .name _ => true
  | _ => false
def Wish.isS : Wish → Bool
  | .mark _ => true
  | .name _ => true
  | .not w => w.leaf
  | .and a b => a.isS && b.isS
  | .or a b => a.isS && b.isS
theorem Wish.simp_isS : ∀ (w : Wish) (b : Bool), (w.simp b).isS = true
  | .mark _, b => by cases b <;> rfl
  | .name _, b => by cases b <;> rfl
  | .not w, b => by simp only [Wish.simp]; exact Wish.simp_isS w _
  | .and a c, b => by cases b <;> simp [Wish.simp, Wish.isS, Wish.simp_isS a, Wish.simp_isS c]
  | .or a c, b => by cases b <;> simp [Wish.simp, Wish.isS, Wish.simp_isS a, Wish.simp_isS c]
theorem is_simple_at (hH : T.get "_law_is_simple" = some k_is_simple) : ∀ (w : Wish) (n : Nat) (st : Sto) (P : D → Sto → Prop) (E : Str → Sto → Prop), w.deep < n → wp (cfN T gc n "_law_is_simple" [w.d]) st P E = P (.bl w.isS) st
  | .mark x, n, st, P, E, h => by
    obtain ⟨n, rfl⟩ : ∃ k, n = k + 1 := ⟨n - 1, by omega⟩
    rw [w_fn hH]
    simp [k_is_simple, Wish.d, Wish.isS]
    try rw [fnQ_rt rfl (fun i e => by cases e)]
  | .name x, n, st, P, E, h => by
    obtain ⟨n, rfl⟩ : ∃ k, n = k + 1 := ⟨n - 1, by omega⟩
    rw [w_fn hH]
    simp [k_is_simple, Wish.d, Wish.isS]
    try rw [fnQ_rt rfl (fun i e => by cases e)]
  | .not w, n, st, P, E, h => by
    obtain ⟨n, rfl⟩ : ∃ k, n = k + 1 := ⟨n - 1, by omega⟩
    rw [w_fn hH]
    cases w <;> simp [k_is_simple, Wish.d, Wish.isS, Wish.leaf] <;> try rw [fnQ_rt rfl (fun i e => by cases e)]
  | .and a b, n, st, P, E, h => by
    simp only [Wish.deep] at h
    obtain ⟨n, rfl⟩ : ∃ k, n = k + 1 := ⟨n - 1, by omega⟩
    have ha := fun st P E => is_simple_at hH a n st P E (by omega)
    have hb := fun st P E => is_simple_at hH b n st P E (by omega)
    rw [w_fn hH]
    simp [k_is_simple, Wish.d, Wish.isS, ha, hb]
    cases a.isS <;> simp <;> try rw [fnQ_rt rfl (fun i e => by cases e)]
  | .or a b, n, st, P, E, h => by
    simp only [Wish.deep] at h
    obtain ⟨n, rfl⟩ : ∃ k, n = k + 1 := ⟨n - 1, by omega⟩
    have ha := fun st P E => is_simple_at hH a n st P E (by omega)
    have hb := fun st P E => is_simple_at hH b n st P E (by omega)
    rw [w_fn hH]
    simp [k_is_simple, Wish.d, Wish.isS, ha, hb]
    cases a.isS <;> simp <;> try rw [fnQ_rt rfl (fun i e => by cases e)]
theorem lsimple_at (hH : T.get "_law_simple" = some k_simple) : ∀ (w : Wish) (b : Bool) (n : Nat) (st : Sto), w.deep < n → wp (cfN T gc n "_law_simple" [w.d, .bl b]) st (fun d st1 => d = (w.simp b).d ∧ st1 = st) noX
  | .mark x, b, n, st, h => by
    obtain ⟨n, rfl⟩ : ∃ k, n = k + 1 := ⟨n - 1, by omega⟩
    rw [w_fn hH]
    cases b <;> simp [k_simple, Wish.d, Wish.simp] <;> (rw [fnQ_rt rfl (fun i e => by cases e)]; exact ⟨rfl, rfl⟩)
  | .name x, b, n, st, h => by
    obtain ⟨n, rfl⟩ : ∃ k, n = k + 1 := ⟨n - 1, by omega⟩
    rw [w_fn hH]
    cases b <;> simp [k_simple, Wish.d, Wish.simp] <;> (rw [fnQ_rt rfl (fun i e => by cases e)]; exact ⟨rfl, rfl⟩)
  | .not w, b, n, st, h => by
    simp only [Wish.deep] at h
    obtain ⟨n, rfl⟩ : ∃ k, n = k + 1 := ⟨n - 1, by omega⟩
    rw [w_fn hH]
    simp [k_simple, Wish.d, Wish.simp]
    refine wp_go (lsimple_at hH w (!b) n st (by omega)) ?_
    rintro _ _ ⟨rfl, rfl⟩
    rw [fnQ_rt rfl (fun i e => absurd e (Wish.noref _ i))]
    exact ⟨rfl, rfl⟩
  | .and a c, b, n, st, h => by
    simp only [Wish.deep] at h
    obtain ⟨n, rfl⟩ : ∃ k, n = k + 1 := ⟨n - 1, by omega⟩
    rw [w_fn hH]
    cases b
    · simp [k_simple, Wish.d, Wish.simp]
      refine wp_go (lsimple_at hH a false n _ (by omega)) ?_
      rintro _ _ ⟨rfl, rfl⟩
      try simp
      refine wp_go (lsimple_at hH c false n _ (by omega)) ?_
      rintro _ _ ⟨rfl, rfl⟩
      rw [fnQ_rt rfl (fun i e => by cases e)]
      exact ⟨rfl, rfl⟩
    · simp [k_simple, Wish.d, Wish.simp, mergeG, putG, valG]
      refine wp_go (lsimple_at hH a true n _ (by omega)) ?_
      rintro _ _ ⟨rfl, rfl⟩
      try simp
      refine wp_go (lsimple_at hH c true n _ (by omega)) ?_
      rintro _ _ ⟨rfl, rfl⟩
      rw [fnQ_drop (fun i e => by cases e) (by simp [D.rlt, D.rlts, Wish.rlt]) (.inl (by simp))]
      simp
  | .or a c, b, n, st, h => by
    simp only [Wish.deep] at h
    obtain ⟨n, rfl⟩ : ∃ k, n = k + 1 := ⟨n - 1, by omega⟩
    rw [w_fn hH]
    cases b
    · simp [k_simple, Wish.d, Wish.simp]
      refine wp_go (lsimple_at hH a false n _ (by omega)) ?_
      rintro _ _ ⟨rfl, rfl⟩
      try simp
      refine wp_go (lsimple_at hH c false n _ (by omega)) ?_
      rintro _ _ ⟨rfl, rfl⟩
      rw [fnQ_rt rfl (fun i e => by cases e)]
      exact ⟨rfl, rfl⟩
    · simp [k_simple, Wish.d, Wish.simp, mergeG, putG, valG]
      refine wp_go (lsimple_at hH a true n _ (by omega)) ?_
      rintro _ _ ⟨rfl, rfl⟩
      try simp
      refine wp_go (lsimple_at hH c true n _ (by omega)) ?_
      rintro _ _ ⟨rfl, rfl⟩
      rw [fnQ_drop (fun i e => by cases e) (by simp [D.rlt, D.rlts, Wish.rlt]) (.inl (by simp))]
      simp
end
end TB
set_option Elab.async false
set_option linter.all false
set_option maxRecDepth 100000
set_option maxHeartbeats 4000000
/-! TB28: _law_tries -/
namespace TB
open PySem PySem.Spec L2
section
variable {T : Tab} {gc : Str → Option D} {n : Nat} {st : Sto} {P : D → Sto → Prop} {E : Str → Sto → Prop}
theorem q_add_ref {j : Nat} {l m : List D} (h : st[j]? = some (.lst l)) (hl : (l ++ m).length ≤ 16777216) : wp (opAdd true (.ref j) (.lst m)) st P E = P (.ref st.length) (st ++ [.lst (l ++ m)]) := by
  have e : opAdd true (.ref j) (.lst m) st = mkL true (l ++ m) st := by
    show (match lstOf st (.ref j), lstOf st (.lst m) with
      | some a, some b => mkL true (a ++ b) st
      | _, _ => none) = _
    rw [lo_ref h]
    rfl
  have := wp_mkLt (st := st) (E := E) (l ++ m) (P := P)
  unfold wp at this ⊢
  rw [e, this]
  exact propext ⟨fun h => h.2, fun h => ⟨by simpa using hl, h⟩⟩
theorem ref_lt {j : Nat} {o : MO} (h : st[j]? = some o) : j < st.length := (List.getElem?_eq_some_iff.mp h).1
theorem ltries_at (hJ : T.get "_law_both" = some k_both) (hT : T.get "_law_tries" = some k_tries) (k : Nat) : ∀ (n : Nat) (st : Sto) (ms : List Mem) (a : Str) (mk ws : List Str), fitsIn k ms → ms.length ≤ 20 → k + 2 < n → k ≤ 3 → a.length + 30 * (k + 1) ≤ 1000 → mk.length + 30 * (k + 1) ≤ 1000 → ws.length + 30 * (k + 1) ≤ 1000 →
    wp (cfN T gc n "_law_tries" [.tup (memsD ms), .str a, sD mk, sD ws]) st (fun d st1 => d = .lst (rowsD (rowsIn a mk ws ms)) ∧ st1 = st) noX := by
  induction k using Nat.strongRecOn with
  | ind k ih =>
    intro n st ms a mk ws hf hl hn hk ha hm hw
    obtain ⟨n, rfl⟩ : ∃ k, n = k + 1 := ⟨n - 1, by omega⟩
    rw [w_fn hT]
    simp [k_tries]
    have bnd : ∀ (pre post : List Mem) (m : Mem), ms = pre ++ m :: post → (rowsD (rowsIn a mk ws pre)).length ≤ 3200000 := by
      intro pre post m e
      have h1 := rowsIn_len k pre a mk ws (by rw [e] at hf; exact (fitsIn_app hf).1)
      have h2 : pre.length ≤ 20 := by rw [e, List.length_append] at hl; omega
      have h3 : pre.length * 20 ^ (k + 1) ≤ 20 * 20 ^ 4 := Nat.mul_le_mul h2 (Nat.pow_le_pow_right (by omega) (by omega))
      rw [rowsD, List.length_map]
      have : (20 : Nat) * 20 ^ 4 = 3200000 := by decide
      omega
    refine loop_inv (fun ds ρ st2 => ∃ (pre post : List Mem) (j : Nat) (x5 x6 x7 x8 x9 : Option D), ms = pre ++ post ∧ ds = memsD post ∧ st2.take st.length = st ∧ st.length ≤ j ∧ st2[j]? = some (.lst (rowsD (rowsIn a mk ws pre))) ∧ ρ = [some (.tup (memsD ms)), some (.str a), some (sD mk), some (sD ws), some (.ref j), x5, x6, x7, x8, x9]) ?_ ?_ ?_ _ _ _ ?_
    · intro ds ρ st2 _
      trivial
    · rintro d ds _ st2 ⟨pre, post, j, x5, x6, x7, x8, x9, e1, e2, tk, hj, hrow, rfl⟩
      cases post with
      | nil => cases e2
      | cons m post =>
        simp only [memsD, List.cons.injEq] at e2
        obtain ⟨rfl, rfl⟩ := e2
        refine ⟨_, rfl, ?_⟩
        rw [e1] at hf
        obtain ⟨f1, f2⟩ := fitsIn_app hf
        simp only [fitsIn] at f2
        obtain ⟨f2, f3⟩ := f2
        have hlen := bnd pre post _ e1
        have hjl := ref_lt hrow
        cases m with
        | try_ nm mm w ds =>
          simp only [Mem.fit] at f2
          simp [Mem.d, at3, at4, q_add_str (show a.length + nm.length ≤ 16777216 by omega), both_at hJ (show 0 < n by omega) mk mm (by omega), both_at hJ (show 0 < n by omega) ws w (by omega), bt_ref hrow, q_app hrow (show (rowsD (rowsIn a mk ws pre)).length < 16777216 by omega)]
          refine ⟨pre ++ [.try_ nm mm w ds], post, by simp [e1], rfl, by rw [List.take_set_of_le hj]; exact tk, hj, ?_⟩
          rw [List.getElem?_set_self hjl]
          simp [rowsIn_app, rowsIn, Mem.rows, rowsD, Row.d]
        | many nm mm w ky ns ds =>
          simp only [Mem.fit] at f2
          obtain ⟨g1, g2, g3, g4, g5, g6⟩ := f2
          simp [Mem.d, at3, at4, at5, both_at hJ (show 0 < n by omega) mk mm (by omega), both_at hJ (show 0 < n by omega) ws w (by omega)]
          refine loop_inv (fun ds2 ρ st3 => ∃ pre2 post2 y8 y9, ns = pre2 ++ post2 ∧ ds2 = post2.map D.int ∧ st3.take st.length = st ∧ st3[j]? = some (.lst (rowsD (rowsIn a mk ws pre ++ pre2.map fun i => ⟨a ++ nm ++ "=" ++ numStr i, a, joinL mk mm, joinL ws w, .set ky i :: ds⟩))) ∧
            ρ = [some (.tup (memsD ms)), some (.str a), some (sD mk), some (sD ws), some (.ref j), some (Mem.many nm mm w ky ns ds).d, some (sD (joinL mk mm)), some (sD (joinL ws w)), y8, y9]) ?_ ?_ ?_ _ _ _ ?_
          · intro ds ρ st2 _
            trivial
          · rintro d2 ds2 _ st3 ⟨pre2, post2, y8, y9, q1, q2, tk3, hrow3, rfl⟩
            cases post2 with
            | nil => cases q2
            | cons i post2 =>
              simp only [List.map_cons, List.cons.injEq] at q2
              obtain ⟨rfl, rfl⟩ := q2
              refine ⟨_, rfl, ?_⟩
              have hi : fitI i := g6 i (by rw [q1]; simp)
              have hi2 := (num_fit hi).2
              have hl2 : (rowsD (rowsIn a mk ws pre ++ pre2.map fun i => (⟨a ++ nm ++ "=" ++ numStr i, a, joinL mk mm, joinL ws w, .set ky i :: ds⟩ : Row))).length < 16777216 := by
                have : pre2.length ≤ 20 := by rw [q1, List.length_append] at g5; omega
                simp [rowsD] at hlen ⊢
                omega
              have s1 : ("=" : Str).length = 1 := by decide +kernel
              have l1 : (a ++ nm).length = a.length + nm.length := len_app _ _
              have l2 : (a ++ nm ++ "=").length = a.length + nm.length + 1 := by rw [len_app, l1, s1]
              have hdl : (ds.length + 1 ≤ 16777216) = True := eq_true (by omega)
              have hdl2 : (ds.length ≤ 16777215) = True := eq_true (by omega)
              have hjl3 := ref_lt hrow3
              simp [Mem.d, at4, at6, q_add_str (show a.length + nm.length ≤ 16777216 by omega), q_add_str (show (a ++ nm).length + ("=" : Str).length ≤ 16777216 by omega), q_add_str (show (a ++ nm ++ "=").length + (numStr i).length ≤ 16777216 by omega), q_str_int hi, bt_ref hrow3, q_app hrow3 hl2, dsD, hdl, hdl2]
              refine ⟨pre2 ++ [i], post2, by simp [q1], rfl, by rw [List.take_set_of_le hj]; exact tk3, ?_⟩
              rw [List.getElem?_set_self hjl3]
              simp [rowsD, Row.d, dsD, Deed.d]
          · rintro _ st3 ⟨pre2, post2, y8, y9, q1, q2, tk3, hrow3, rfl⟩
            cases post2 with
            | cons i post2 => cases q2
            | nil =>
              rw [List.append_nil] at q1
              subst q1
              simp
              refine ⟨pre ++ [.many nm mm w ky ns ds], post, by simp [e1], rfl, tk3, hj, ?_⟩
              rw [hrow3]
              simp [rowsIn_app, rowsIn, Mem.rows, rowsD]
          · exact ⟨[], ns, _, _, rfl, rfl, tk, by rw [hrow]; simp, rfl⟩
        | group nm mm w mem =>
          cases k with
          | zero => simp [Mem.fit] at f2
          | succ k =>
            simp only [Mem.fit] at f2
            obtain ⟨g1, g2, g3, g4, g5⟩ := f2
            have j1 := joinL_len mk mm
            have j2 := joinL_len ws w
            have s1 : ("/" : Str).length = 1 := by decide +kernel
            have l1 : (a ++ nm).length = a.length + nm.length := len_app _ _
            have l2 : (a ++ nm ++ "/").length = a.length + nm.length + 1 := by rw [len_app, l1, s1]
            simp [Mem.d, at3, at4, q_add_str (show a.length + nm.length ≤ 16777216 by omega), q_add_str (show (a ++ nm).length + ("/" : Str).length ≤ 16777216 by omega), both_at hJ (show 0 < n by omega) mk mm (by omega), both_at hJ (show 0 < n by omega) ws w (by omega)]
            rw [wp_det (ih k (by omega) n _ mem (a ++ nm ++ "/") (joinL mk mm) (joinL ws w) g5 g4 (by omega) (by omega) (by omega) (by omega) (by omega))]
            have hl2 : (rowsD (rowsIn (a ++ nm ++ "/") (joinL mk mm) (joinL ws w) mem)).length ≤ 3200000 := by
              have h1 := rowsIn_len k mem (a ++ nm ++ "/") (joinL mk mm) (joinL ws w) g5
              have h3 : mem.length * 20 ^ (k + 1) ≤ 20 * 20 ^ 4 := Nat.mul_le_mul g4 (Nat.pow_le_pow_right (by omega) (by omega))
              rw [rowsD, List.length_map]
              have : (20 : Nat) * 20 ^ 4 = 3200000 := by decide
              omega
            rw [q_add_ref hrow (by rw [List.length_append]; omega)]
            have hst : st.length ≤ st2.length := by omega
            refine ⟨pre ++ [.group nm mm w mem], post, by simp [e1], rfl, by rw [List.take_append_of_le_length hst]; exact tk, st2.length, hst, ?_, rfl⟩
            simp [rowsIn_app, rowsIn, Mem.rows, rowsD]
    · rintro _ st2 ⟨pre, post, j, x5, x6, x7, x8, x9, e1, e2, tk, hj, hrow, rfl⟩
      cases post with
      | cons m post => cases e2
      | nil =>
        rw [List.append_nil] at e1
        subst e1
        simp
        rw [fnQ_list (l := rowsD (rowsIn a mk ws ms)) hj hrow (rlt_rows _ _) (.inl tk)]
        exact ⟨rfl, tk⟩
    · exact ⟨[], ms, st.length, _, _, _, _, _, rfl, rfl, by simp, Nat.le_refl _, by simp [rowsIn, rowsD], rfl⟩
theorem ltries_eq (hJ : T.get "_law_both" = some k_both) (hT : T.get "_law_tries" = some k_tries) (hn : 5 < n) {b : Book} (hb : b.fits) (P : D → Sto → Prop) (E : Str → Sto → Prop) : wp (cfN T gc n "_law_tries" [.tup (memsD b.mems), .str "", .tup [], .tup []]) st P E = P (.lst (rowsD b.rows)) st := by
  have e0 : ("" : Str).length = 0 := by decide +kernel
  exact wp_det (ltries_at (T := T) (gc := gc) hJ hT 3 n st b.mems "" [] [] hb.fit hb.few (by omega) (by omega) (by rw [e0]; omega) (by simp) (by simp)) P E
end
theorem apart_parts {rs : List Row} (hd : (rs.map Row.path).Nodup) (v w : Wish) : ((Wish.or v w).ch rs).filter (fun x => decide (x ∉ (Wish.and v w).ch rs)) = (rs.filter (parts v w)).map Row.path := by
  unfold Wish.ch
  rw [filter_path (fun r => !(Wish.and v w).holds r.path r.marks) _ (fun r hr => ?_), List.filter_filter]
  · congr 1
    refine List.filter_congr fun r _ => ?_
    simp only [Wish.holds, parts]
    cases v.holds r.path r.marks <;> cases w.holds r.path r.marks <;> rfl
  · have := ch_mem hd (.and v w) (List.mem_filter.mp hr).1
    unfold Wish.ch at this
    rw [← this]
    simp only [decide_not]
end TB
set_option Elab.async false
set_option linter.all false
set_option maxRecDepth 100000
set_option maxHeartbeats 4000000
/-! TB29: stages that tries need: stage_at, closed, needs -/
namespace TB
open PySem PySem.Spec L2
def k_p_group_of : Def := ⟨"group_of", ["book", "path"], ["book", "path"],
  (.cons (.ret (.idx (.call "try_at" 2 (.cons (.var 0) (.cons (.var 1) .nil))) (.int 1)))
  .nil)⟩

def k_p_deeds_of : Def := ⟨"deeds_of", ["book", "path"], ["book", "path"],
  (.cons (.ret (.idx (.call "try_at" 2 (.cons (.var 0) (.cons (.var 1) .nil))) (.int 4)))
  .nil)⟩

def k_p_stage_at : Def := ⟨"stage_at", ["book", "name"], ["book", "name", "found", "one"],
  (.cons (.asg (.one 2) (.lc false [("one", 3)] (.one 3) (.seq (.idx (.var 0) (.int 0))) (.some (.cmp .Eq (.idx (.var 3) (.int 0)) (.var 1))) (.var 3)))
  (.cons (.ife (.not (.var 2))
   (.cons (.raise "NoStage")
   .nil)
   .nil)
  (.cons (.ret (.idx (.var 2) (.int 0)))
  .nil)))⟩

def k_p_closed : Def := ⟨"closed", ["book", "wants", "found"], ["book", "wants", "found", "name"],
  (.cons (.for_ (.one 3) (.seq (.var 1))
   (.cons (.asg (.one 2) (.call "closed" 3 (.cons (.var 0) (.cons (.idx (.call "stage_at" 2 (.cons (.var 0) (.cons (.var 3) .nil))) (.int 2)) (.cons (.var 2) .nil)))))
   (.cons (.ife (.cmp .NotIn (.var 3) (.var 2))
    (.cons (.asg (.one 2) (.bin (.add false) (.var 2) (.tup (.cons (.var 3) .nil))))
    .nil)
    .nil)
   .nil)))
  (.cons (.ret (.var 2))
  .nil))⟩

def k_p_needs : Def := ⟨"needs", ["book", "path"], ["book", "path", "every", "found", "far", "name"],
  (.cons (.asg (.one 2) (.call "closed" 3 (.cons (.var 0) (.cons (.idx (.call "try_at" 2 (.cons (.var 0) (.cons (.var 1) .nil))) (.int 3)) (.cons (.tup .nil) .nil)))))
  (.cons (.asg (.one 3) (.tup .nil))
  (.cons (.for_ (.one 4) (.seq (.tup (.cons (.int 2) (.cons (.int 1) (.cons (.int 0) .nil)))))
   (.cons (.asg (.one 3) (.bin (.add false) (.var 3) (.blt .tuple (.lc false [("name", 5)] (.one 5) (.seq (.var 2)) (.some (.cmp .Eq (.gix "WIDE" (.idx (.call "stage_at" 2 (.cons (.var 0) (.cons (.var 5) .nil))) (.int 1))) (.var 4))) (.var 5)))))
   .nil))
  (.cons (.ret (.var 3))
  .nil))))⟩

def k_p_wanted_by : Def := ⟨"wanted_by", ["book", "name"], ["book", "name", "one"],
  (.cons (.expr (.call "stage_at" 2 (.cons (.var 0) (.cons (.var 1) .nil))))
  (.cons (.ret (.blt .tuple (.lc false [("one", 2)] (.one 2) (.seq (.call "tries_of" 1 (.cons (.var 0) .nil))) (.some (.cmp .In (.var 1) (.call "needs" 2 (.cons (.var 0) (.cons (.idx (.var 2) (.int 0)) .nil))))) (.idx (.var 2) (.int 0)))))
  .nil))⟩

def k_p_idle : Def := ⟨"idle", ["book"], ["book", "one"],
  (.cons (.ret (.blt .tuple (.lc false [("one", 1)] (.one 1) (.seq (.idx (.var 0) (.int 0))) (.some (.cmp .Eq (.call "wanted_by" 2 (.cons (.var 0) (.cons (.idx (.var 1) (.int 0)) .nil))) (.tup .nil))) (.idx (.var 1) (.int 0)))))
  .nil)⟩

theorem filter_key {α : Type} (key : α → Str) {l : List α} (h : (l.map key).Nodup) {r : α} (hr : r ∈ l) : l.filter (fun x => decide (key x = key r)) = [r] := by
  induction l with
  | nil => cases hr
  | cons x l ih =>
    simp only [List.map_cons, List.nodup_cons] at h
    by_cases e : key x = key r
    · have hx : x = r := by
        rcases List.mem_cons.mp hr with z | z
        · exact z.symm
        · exact absurd (e ▸ List.mem_map_of_mem z) h.1
      subst hx
      rw [List.filter_cons_of_pos (by simp), List.filter_eq_nil_iff.mpr]
      intro y hy
      simp
      intro e
      exact h.1 (e ▸ List.mem_map_of_mem hy)
    · have hr2 : r ∈ l := by
        rcases List.mem_cons.mp hr with z | z
        · exact absurd (z ▸ rfl) e
        · exact z
      rw [List.filter_cons_of_neg (by simpa using e), ih h.2 hr2]
theorem ixb0 {st : Sto} (b : Book) : idxT st b.d (.int 0) = some (.tup (b.stages.map Stage.d)) := by simp [Book.d]
theorem ixb1 {st : Sto} (b : Book) : idxT st b.d (.int 1) = some (.tup (memsD b.mems)) := by simp [Book.d]
theorem ixs0 {st : Sto} (s : Stage) : idxT st s.d (.int 0) = some (.str s.name) := by simp [Stage.d]
theorem ixs1 {st : Sto} (s : Stage) : idxT st s.d (.int 1) = some (.str s.reach) := by simp [Stage.d]
theorem ixs2 {st : Sto} (s : Stage) : idxT st s.d (.int 2) = some (sD s.wants) := by simp [Stage.d]
/-- a stage behind others, whatever it does -/
structure okStg (pre : List Stage) (s : Stage) : Prop where
  reach : reachOk s.reach
  nd : s.wants.Nodup
  few : s.wants.length ≤ 2
  wants : ∀ w ∈ s.wants, ∃ p ∈ pre, p.name = w ∧ farN s.reach ≤ farN p.reach
def okStgs (ss : List Stage) : Prop := ∀ pre s post, ss = pre ++ s :: post → okStg pre s
theorem okStages.stgs {ss : List Stage} (h : okStages ss) : okStgs ss := fun pre s post e => let q := h pre s post e; ⟨q.reach, q.nd, q.few, q.wants⟩
theorem okStgs.mem {ss : List Stage} (h : okStgs ss) {s : Stage} (hs : s ∈ ss) : ∃ pre, okStg pre s ∧ ∀ x ∈ pre, x ∈ ss := by
  obtain ⟨pre, post, e⟩ := List.append_of_mem hs
  exact ⟨pre, h pre s post e, fun x hx => by rw [e]; exact List.mem_append_left _ hx⟩
/-- the stages of a book, as they must stand -/
structure Book.stOk (b : Book) : Prop where
  ok : okStgs b.stages
  nd : (b.stages.map Stage.name).Nodup
  few : b.stages.length ≤ 12
structure NeedT (T : Tab) (gc : Str → Option D) : Prop extends LookT T where
  stage_at : T.get "stage_at" = some k_p_stage_at
  closed : T.get "closed" = some k_p_closed
  needs : T.get "needs" = some k_p_needs
  wide : ∀ r, reachOk r → gc (gkey "WIDE" r) = some (.int (farN r))
/-- the wants of a name -/
def wantsOf (ss : List Stage) (x : Str) : List Str := ((ss.find? fun s => decide (s.name = x)).map Stage.wants).getD []
def addS (f : List Str) (x : Str) : List Str := if x ∈ f then f else f ++ [x]
def clos (ss : List Stage) : Nat → List Str → List Str → List Str
  | 0, _, f => f
  | k + 1, ws, f => ws.foldl (fun f x => addS (clos ss k (wantsOf ss x) f) x) f
theorem wantsOf_eq {ss : List Stage} (h : (ss.map Stage.name).Nodup) {s : Stage} (hs : s ∈ ss) : wantsOf ss s.name = s.wants := by
  unfold wantsOf
  rw [← List.head?_filter, filter_key Stage.name h hs]
  rfl
theorem addS_len (f : List Str) (x : Str) : (addS f x).length ≤ f.length + 1 := by
  unfold addS
  split <;> simp
theorem clos_len {ss : List Stage} (hw : ∀ x, (wantsOf ss x).length ≤ 2) : ∀ (k : Nat) (ws f : List Str), (clos ss k ws f).length ≤ f.length + ws.length * 3 ^ k
  | 0, ws, f => by simp [clos]
  | k + 1, ws, f => by
    unfold clos
    induction ws generalizing f with
    | nil => simp
    | cons x ws ih =>
      rw [List.foldl_cons]
      refine Nat.le_trans (ih _) ?_
      have h1 := addS_len (clos ss k (wantsOf ss x) f) x
      have h2 := clos_len hw k (wantsOf ss x) f
      have h3 : (wantsOf ss x).length * 3 ^ k ≤ 2 * 3 ^ k := Nat.mul_le_mul_right _ (hw x)
      have h4 : 3 ^ (k + 1) = 3 * 3 ^ k := by rw [Nat.pow_succ, Nat.mul_comm]
      have h5 : 1 ≤ 3 ^ k := Nat.one_le_pow _ _ (by omega)
      rw [List.length_cons, Nat.add_mul, Nat.one_mul, h4]
      omega
theorem Book.stOk.two {b : Book} (h : b.stOk) (x : Str) : (wantsOf b.stages x).length ≤ 2 := by
  unfold wantsOf
  cases e : b.stages.find? (fun s => decide (s.name = x)) with
  | none => simp
  | some s =>
    obtain ⟨pre, os, _⟩ := h.ok.mem (List.mem_of_find?_eq_some e)
    simpa using os.few
/-- the names of the first k stages -/
def firstN (ss : List Stage) (k : Nat) : List Str := (ss.take k).map Stage.name
theorem firstN_step {ss : List Stage} (ok : okStgs ss) {k : Nat} {x : Str} (h : x ∈ firstN ss (k + 1)) : ∃ s ∈ ss, s.name = x ∧ ∀ w ∈ s.wants, w ∈ firstN ss k := by
  obtain ⟨s, hs, rfl⟩ := List.mem_map.mp h
  obtain ⟨i, hi, e⟩ := List.mem_iff_getElem.mp hs
  have hi2 : i < ss.length := by rw [List.length_take] at hi; omega
  have hik : i ≤ k := by rw [List.length_take] at hi; omega
  rw [List.getElem_take] at e
  have hss : ss = ss.take i ++ s :: ss.drop (i + 1) := by
    rw [← e]
    exact (List.take_append_drop i ss).symm.trans (by rw [List.drop_eq_getElem_cons hi2])
  have os := ok (ss.take i) s (ss.drop (i + 1)) hss
  refine ⟨s, by rw [← e]; exact List.getElem_mem hi2, rfl, fun w hw => ?_⟩
  obtain ⟨p, hp, hpn, _⟩ := os.wants w hw
  rw [← hpn]
  refine List.mem_map_of_mem ?_
  have : ss.take i = (ss.take k).take i := by rw [List.take_take, Nat.min_eq_left hik]
  rw [this] at hp
  exact List.mem_of_mem_take hp
section
variable {T : Tab} {gc : Str → Option D} {n : Nat} {st : Sto} {P : D → Sto → Prop} {E : Str → Sto → Prop}
theorem stage_at_at (hS : T.get "stage_at" = some k_p_stage_at) (hn : 0 < n) {b : Book} (hb : b.stOk) {s : Stage} (hs : s ∈ b.stages) (P : D → Sto → Prop) (E : Str → Sto → Prop) : wp (cfN T gc n "stage_at" [b.d, .str s.name]) st P E = P s.d st := by
  refine wp_det ?_ P E
  obtain ⟨n, rfl⟩ : ∃ k, n = k + 1 := ⟨n - 1, by omega⟩
  rw [w_fn hS]
  simp [k_p_stage_at, ixb0]
  rw [lcm Stage.d (fun x => decide (x.name = s.name)) Stage.d (by trivial) b.stages]
  · rw [filter_key Stage.name hb.nd hs]
    simp
    rw [fnQ_rt rfl (fun i e => by cases e)]
    exact ⟨rfl, rfl⟩
  · intro x hx P
    simp [wipeD, ixs0]
  · intro x hx _ P
    simp [wipeD]
theorem closed_at (hS : T.get "stage_at" = some k_p_stage_at) (hC : T.get "closed" = some k_p_closed) {b : Book} (hb : b.stOk) : ∀ (k n : Nat) (st : Sto) (ws f : List Str), (∀ w ∈ ws, w ∈ firstN b.stages k) → k + 2 < n → k ≤ 12 → f.length + ws.length * 3 ^ k ≤ 10000000 →
    wp (cfN T gc n "closed" [b.d, sD ws, sD f]) st (fun d st1 => d = sD (clos b.stages k ws f) ∧ st1 = st) noX := by
  intro k
  induction k with
  | zero =>
    intro n st ws f hw hn hk hl
    obtain ⟨n, rfl⟩ : ∃ k, n = k + 1 := ⟨n - 1, by omega⟩
    have : ws = [] := by
      cases ws with
      | nil => rfl
      | cons w ws => have := hw w List.mem_cons_self; simp [firstN] at this
    subst this
    rw [w_fn hC]
    simp [k_p_closed, sD]
    refine loop_inv (fun ds ρ st2 => ds = [] ∧ st2 = st ∧ ∃ x3, ρ = [some b.d, some (.tup []), some (.tup (f.map .str)), x3]) ?_ ?_ ?_ _ _ _ ?_
    · intro ds ρ st2 _
      trivial
    · rintro d ds _ _ ⟨h, _⟩
      cases h
    · rintro _ _ ⟨_, rfl, x3, rfl⟩
      simp
      rw [fnQ_rt rfl (fun i e => by cases e)]
      exact ⟨rfl, rfl⟩
    · exact ⟨rfl, rfl, none, rfl⟩
  | succ k ih =>
    intro n st ws f hw hn hk hl
    obtain ⟨n, rfl⟩ : ∃ k, n = k + 1 := ⟨n - 1, by omega⟩
    rw [w_fn hC]
    simp [k_p_closed, sD]
    refine loop_inv (fun ds ρ st2 => ∃ (pre post : List Str) (x3 : Option D), ws = pre ++ post ∧ ds = post.map .str ∧ st2 = st ∧ ρ = [some b.d, some (.tup (ws.map .str)), some (sD (pre.foldl (fun f x => addS (clos b.stages k (wantsOf b.stages x) f) x) f)), x3]) ?_ ?_ ?_ _ _ _ ?_
    · intro ds ρ st2 _
      trivial
    · rintro d ds _ _ ⟨pre, post, x3, e1, e2, rfl, rfl⟩
      cases post with
      | nil => cases e2
      | cons x post =>
        simp only [List.map_cons, List.cons.injEq] at e2
        obtain ⟨rfl, rfl⟩ := e2
        refine ⟨_, rfl, ?_⟩
        obtain ⟨s, hs, rfl, hsw⟩ := firstN_step hb.ok (hw x (by rw [e1]; simp))
        have hlen : (pre.foldl (fun f x => addS (clos b.stages k (wantsOf b.stages x) f) x) f).length ≤ f.length + pre.length * 3 ^ (k + 1) := clos_len hb.two (k + 1) pre f
        have hp : pre.length + 1 ≤ ws.length := by rw [e1]; simp
        have hp2 : (pre.length + 1) * 3 ^ (k + 1) ≤ ws.length * 3 ^ (k + 1) := Nat.mul_le_mul_right _ hp
        obtain ⟨g, hg⟩ : ∃ g, g = pre.foldl (fun f x => addS (clos b.stages k (wantsOf b.stages x) f) x) f := ⟨_, rfl⟩
        rw [← hg] at hlen ⊢
        have hstep : (pre ++ [s.name]).foldl (fun f x => addS (clos b.stages k (wantsOf b.stages x) f) x) f = addS (clos b.stages k s.wants g) s.name := by
          rw [List.foldl_append, ← hg, List.foldl_cons, List.foldl_nil, wantsOf_eq hb.nd hs]
        have h4 : 3 ^ (k + 1) = 3 * 3 ^ k := by rw [Nat.pow_succ, Nat.mul_comm]
        have hs2 : s.wants.length ≤ 2 := by have := hb.two s.name; rwa [wantsOf_eq hb.nd hs] at this
        have hm : s.wants.length * 3 ^ k ≤ 2 * 3 ^ k := Nat.mul_le_mul_right _ hs2
        have h5 : 1 ≤ 3 ^ k := Nat.one_le_pow _ _ (by omega)
        rw [Nat.add_mul, Nat.one_mul] at hp2
        have hcl := clos_len hb.two k s.wants g
        have hc := fun st2 => wp_det (ih n st2 s.wants g hsw (by omega) (by omega) (by omega))
        simp [stage_at_at hS (show 0 < n by omega) hb hs, ixs2, hc]
        split
        · rename_i hin
          exact ⟨pre ++ [s.name], post, by simp [e1], rfl, by rw [hstep, addS, if_pos hin]⟩
        · rename_i hin
          rw [show sD (clos b.stages k s.wants g) = .tup ((clos b.stages k s.wants g).map .str) from rfl, q_add_tup]
          refine ⟨by simp; omega, pre ++ [s.name], post, by simp [e1], rfl, rfl, ?_⟩
          rw [hstep, addS, if_neg hin]
          simp [sD]
    · rintro _ _ ⟨pre, post, x3, e1, e2, rfl, rfl⟩
      cases post with
      | cons _ _ => cases e2
      | nil =>
        rw [List.append_nil] at e1
        subst e1
        simp
        rw [fnQ_rt rfl (fun i e => by cases e)]
        exact ⟨rfl, rfl⟩
    · exact ⟨[], ws, none, rfl, rfl, rfl, rfl⟩
/-! ### needs -/
theorem clos_mem {ss : List Stage} {nm : List Str} (hw : ∀ x, ∀ w ∈ wantsOf ss x, w ∈ nm) : ∀ (k : Nat) (ws f : List Str), (∀ w ∈ ws, w ∈ nm) → (∀ w ∈ f, w ∈ nm) → ∀ x ∈ clos ss k ws f, x ∈ nm
  | 0, ws, f, _, hf, x, hx => hf x hx
  | k + 1, ws, f, h, hf, x, hx => by
    unfold clos at hx
    induction ws generalizing f with
    | nil => exact hf x hx
    | cons w ws ih =>
      rw [List.foldl_cons] at hx
      refine ih _ (fun y hy => h y (List.mem_cons_of_mem _ hy)) (fun y hy => ?_) hx
      unfold addS at hy
      have hc := clos_mem hw k (wantsOf ss w) f (hw w) hf
      split at hy
      · exact hc y hy
      · rcases List.mem_append.mp hy with z | z
        · exact hc y z
        · simp at z; subst z; exact h y List.mem_cons_self
def Book.names (b : Book) : List Str := b.stages.map Stage.name
def Book.reachOf (b : Book) (x : Str) : Str := ((b.stages.find? fun s => decide (s.name = x)).map Stage.reach).getD "each"
def Book.clo (b : Book) (ws : List Str) : List Str := clos b.stages b.stages.length ws []
def Book.at_ (b : Book) (ws : List Str) (i : Int) : List Str := (b.clo ws).filter fun x => decide (farN (b.reachOf x) = i)
def Book.need (b : Book) (ws : List Str) : List Str := b.at_ ws 2 ++ b.at_ ws 1 ++ b.at_ ws 0
theorem reachOf_eq {b : Book} (h : b.stOk) {s : Stage} (hs : s ∈ b.stages) : b.reachOf s.name = s.reach := by
  unfold Book.reachOf
  rw [← List.head?_filter, filter_key Stage.name h.nd hs]
  rfl
theorem Book.stOk.wn {b : Book} (h : b.stOk) (x : Str) : ∀ w ∈ wantsOf b.stages x, w ∈ b.names := by
  intro w hw
  unfold wantsOf at hw
  cases e : b.stages.find? (fun s => decide (s.name = x)) with
  | none => rw [e] at hw; simp at hw
  | some s =>
    rw [e] at hw
    obtain ⟨pre, os, hpre⟩ := h.ok.mem (List.mem_of_find?_eq_some e)
    obtain ⟨p, hp, hpn, _⟩ := os.wants w (by simpa using hw)
    exact hpn ▸ List.mem_map_of_mem (hpre p hp)
theorem clo_mem {b : Book} (h : b.stOk) {ws : List Str} (hw : ∀ w ∈ ws, w ∈ b.names) : ∀ x ∈ b.clo ws, x ∈ b.names := clos_mem h.wn _ _ _ hw (fun _ h => by cases h)
theorem clo_len {b : Book} (h : b.stOk) {ws : List Str} (hw : ws.length ≤ 10) : (b.clo ws).length ≤ 5400000 := by
  have h1 := clos_len h.two b.stages.length ws []
  have h2 : ws.length * 3 ^ b.stages.length ≤ 10 * 3 ^ 12 := Nat.mul_le_mul hw (Nat.pow_le_pow_right (by omega) h.few)
  have h3 : 10 * 3 ^ 12 = 5314410 := by decide
  unfold Book.clo
  simp at h1
  omega
theorem needs_at (N : NeedT T gc) (hn : 20 < n) {b : Book} (hs : b.stOk) (hb : b.fits) (hd : (b.rows.map Row.path).Nodup) {r : Row} (hr : r ∈ b.rows) (hw : ∀ w ∈ r.wants, w ∈ b.names) (hl : r.wants.length ≤ 10) (P : D → Sto → Prop) (E : Str → Sto → Prop) :
    wp (cfN T gc n "needs" [b.d, .str r.path]) st P E = P (sD (b.need r.wants)) st := by
  refine wp_det ?_ P E
  obtain ⟨n, rfl⟩ : ∃ k, n = k + 1 := ⟨n - 1, by omega⟩
  have few := hs.few
  have hcl := clo_len hs hl
  have hc := fun st => wp_det (closed_at (T := T) (gc := gc) N.stage_at N.closed hs b.stages.length n st r.wants [] (by unfold firstN; rw [List.take_length]; exact hw) (by omega) few (by
    have h2 : r.wants.length * 3 ^ b.stages.length ≤ 10 * 3 ^ 12 := Nat.mul_le_mul hl (Nat.pow_le_pow_right (by omega) few)
    have h3 : 10 * 3 ^ 12 = 5314410 := by decide
    simp
    omega))
  have hmem := clo_mem hs hw
  rw [w_fn N.needs]
  simp [k_p_needs, try_at_at N.toLookT (show 7 < n by omega) hb hd hr, ix_row3]
  rw [show (D.tup [] : D) = sD [] from rfl, hc]
  change ∀ x ∈ b.clo r.wants, x ∈ b.names at hmem
  change (b.clo r.wants).length ≤ 5400000 at hcl
  rw [show clos b.stages b.stages.length r.wants [] = b.clo r.wants from rfl]
  have al : ∀ i, (b.at_ r.wants i).length ≤ (b.clo r.wants).length := fun i => List.length_filter_le _ _
  have ad : ∀ i, b.at_ r.wants i = (b.clo r.wants).filter fun x => decide (farN (b.reachOf x) = i) := fun i => rfl
  have am : ∀ i, ∀ x ∈ b.at_ r.wants i, x ∈ b.clo r.wants := fun i x hx => (List.mem_filter.mp hx).1
  generalize b.clo r.wants = cl at hmem hcl al ad am
  simp [sD]
  refine loop_inv (fun ds ρ st2 => ∃ (pre post : List Int) (x4 x5 : Option D), [2, 1, 0] = pre ++ post ∧ ds = post.map .int ∧ st2 = st ∧ ρ = [some b.d, some (.str r.path), some (.tup (cl.map .str)), some (sD ((pre.map (b.at_ r.wants)).flatten)), x4, x5]) ?_ ?_ ?_ _ _ _ ?_
  · intro ds ρ st2 _
    trivial
  · rintro d ds _ _ ⟨pre, post, x4, x5, e1, e2, rfl, rfl⟩
    cases post with
    | nil => cases e2
    | cons i post =>
      simp only [List.map_cons, List.cons.injEq] at e2
      obtain ⟨rfl, rfl⟩ := e2
      refine ⟨_, rfl, ?_⟩
      have hpl : pre.length ≤ 2 := by
        have := congrArg List.length e1
        simp at this
        omega
      have hfl : ((pre.map (b.at_ r.wants)).flatten).length ≤ 2 * 5400000 := by
        have key : ∀ l : List Int, ((l.map (b.at_ r.wants)).flatten).length ≤ l.length * 5400000 := by
          intro l
          induction l with
          | nil => simp
          | cons j l ih2 =>
            have := al j
            simp only [List.map_cons, List.flatten_cons, List.length_append, List.length_cons, Nat.add_mul, Nat.one_mul]
            omega
        exact Nat.le_trans (key pre) (Nat.mul_le_mul_right _ hpl)
      simp
      rw [lcm D.str (fun x => decide (farN (b.reachOf x) = i)) D.str (by trivial) cl]
      · rw [← ad i]
        have hi := al i
        refine ⟨by rw [List.length_map]; omega, ?_⟩
        rw [show sD ((pre.map (b.at_ r.wants)).flatten) = .tup (((pre.map (b.at_ r.wants)).flatten).map .str) from rfl]
        rw [q_add_tup]
        refine ⟨by rw [List.length_append, List.length_map, List.length_map]; simp only [u_sz]; omega, pre ++ [i], post, by rw [e1]; simp, rfl, rfl, ?_⟩
        simp [sD]
      · intro x hx P
        obtain ⟨s, hs', rfl⟩ := List.mem_map.mp (hmem x hx)
        obtain ⟨q, os, _⟩ := hs.ok.mem hs'
        simp [wipeD, stage_at_at N.stage_at (show 0 < n by omega) hs hs', ixs1, N.wide _ os.reach, reachOf_eq hs hs']
      · intro x hx _ P
        simp [wipeD]
  · rintro _ _ ⟨pre, post, x4, x5, e1, e2, rfl, rfl⟩
    cases post with
    | cons _ _ => cases e2
    | nil =>
      rw [List.append_nil] at e1
      subst e1
      simp
      rw [fnQ_rt rfl (fun i e => by cases e)]
      exact ⟨by simp [Book.need, sD], rfl⟩
  · exact ⟨[], [2, 1, 0], none, none, rfl, rfl, rfl, rfl⟩
end
/-! ### the wants of the tries of a good book -/
theorem joinL_mem {a b nm : List Str} (h1 : ∀ x ∈ a, x ∈ nm) (h2 : ∀ x ∈ b, x ∈ nm) : ∀ x ∈ joinL a b, x ∈ nm := by
  intro x hx
  unfold joinL at hx
  rcases List.mem_append.mp hx with z | z
  · exact h1 x z
  · exact h2 x (List.mem_filter.mp z).1
mutual
theorem Mem.rows_wants {sn : List Str} : ∀ (k : Nat) (m : Mem) (a : Str) (mk ws : List Str), m.ok sn k → (∀ w ∈ ws, w ∈ sn) → ∀ r ∈ m.rows a mk ws, (∀ w ∈ r.wants, w ∈ sn) ∧ r.wants.length ≤ ws.length + 2 * (k + 1)
  | k, .try_ n m w ds, a, mk, ws, h, hw, r, hr => by
    simp only [Mem.ok] at h
    simp only [Mem.rows, List.mem_singleton] at hr
    subst hr
    have h1 := joinL_len ws w
    have h2 := h.1.w3
    exact ⟨joinL_mem hw h.1.w2, by show (joinL ws w).length ≤ _; omega⟩
  | k, .many n m w q ns ds, a, mk, ws, h, hw, r, hr => by
    simp only [Mem.ok] at h
    simp only [Mem.rows, List.mem_map] at hr
    obtain ⟨i, _, rfl⟩ := hr
    have h1 := joinL_len ws w
    have h2 := h.1.w3
    exact ⟨joinL_mem hw h.1.w2, by show (joinL ws w).length ≤ _; omega⟩
  | 0, .group _ _ _ _, a, mk, ws, h, hw, r, hr => by simp only [Mem.ok] at h
  | k + 1, .group n m w ms, a, mk, ws, h, hw, r, hr => by
    simp only [Mem.ok] at h
    simp only [Mem.rows] at hr
    have h1 := joinL_len ws w
    have h2 := h.1.w3
    obtain ⟨h3, h4⟩ := rowsIn_wants k ms _ _ _ h.2.2.2.2 (joinL_mem hw h.1.w2) r hr
    exact ⟨h3, by omega⟩
theorem rowsIn_wants {sn : List Str} : ∀ (k : Nat) (ms : List Mem) (a : Str) (mk ws : List Str), oksIn sn k ms → (∀ w ∈ ws, w ∈ sn) → ∀ r ∈ rowsIn a mk ws ms, (∀ w ∈ r.wants, w ∈ sn) ∧ r.wants.length ≤ ws.length + 2 * (k + 1)
  | k, [], a, mk, ws, h, hw, r, hr => by simp [rowsIn] at hr
  | k, m :: ms, a, mk, ws, h, hw, r, hr => by
    simp only [oksIn] at h
    simp only [rowsIn, List.mem_append] at hr
    rcases hr with hr | hr
    · exact Mem.rows_wants k m a mk ws h.1 hw r hr
    · exact rowsIn_wants k ms a mk ws h.2 hw r hr
end
theorem Book.ok.wants {b : Book} (h : b.ok) {r : Row} (hr : r ∈ b.rows) : (∀ w ∈ r.wants, w ∈ b.names) ∧ r.wants.length ≤ 6 := by
  have := rowsIn_wants 2 b.mems "" [] [] h.m1 (fun _ h => by cases h) r hr
  exact ⟨this.1, by simpa using this.2⟩
theorem Book.ok.stOk {b : Book} (h : b.ok) : b.stOk := ⟨h.st1.stgs, h.st2, by have := h.st4; omega⟩
end TB
set_option Elab.async false
set_option linter.all false
set_option maxRecDepth 100000
set_option maxHeartbeats 4000000
/-! TB30: the running defs; deeds -/
namespace TB
open PySem PySem.Spec L2
def k_p_done : Def := ⟨"done", ["world", "deed", "said"], ["world", "deed", "said"],
  (.cons (.ife (.cmp .Eq (.idx (.var 1) (.int 0)) (.str "set"))
   (.cons (.dput (.var 0) (.idx (.var 1) (.int 1)) (.idx (.var 1) (.int 2)))
   .nil)
   (.cons (.ife (.cmp .Eq (.idx (.var 1) (.int 0)) (.str "add"))
    (.cons (.dput (.var 0) (.idx (.var 1) (.int 1)) (.bin (.add false) (.bm .get (.var 0) (.cons (.idx (.var 1) (.int 1)) (.cons (.int 0) .nil))) (.idx (.var 1) (.int 2))))
    .nil)
    (.cons (.ife (.cmp .Eq (.idx (.var 1) (.int 0)) (.str "say"))
     (.cons (.expr (.bm .append (.var 2) (.cons (.idx (.var 1) (.int 1)) .nil)))
     .nil)
     (.cons (.ife (.cmp .Eq (.idx (.var 1) (.int 0)) (.str "leave"))
      (.cons (.ret (.str "left"))
      .nil)
      (.cons (.ife (.bor (.cons (.cmp .Eq (.idx (.var 1) (.int 0)) (.str "fail")) (.cons (.cmp .NotEq (.bm .get (.var 0) (.cons (.idx (.var 1) (.int 1)) (.cons (.int 0) .nil))) (.idx (.var 1) (.int 2))) .nil)))
       (.cons (.ret (.str "bad"))
       .nil)
       .nil)
      .nil))
     .nil))
    .nil))
   .nil))
  (.cons (.ret .non)
  .nil))⟩

def k_p_all_done : Def := ⟨"all_done", ["world", "deeds", "said"], ["world", "deeds", "said", "number", "deed", "word"],
  (.cons (.for_ (.tup [3, 4]) (.enum (.var 1))
   (.cons (.asg (.one 5) (.call "done" 3 (.cons (.var 0) (.cons (.var 4) (.cons (.var 2) .nil)))))
   (.cons (.ife (.cmp .IsNot (.var 5) .non)
    (.cons (.ret (.tup (.cons (.var 5) (.cons (.var 3) .nil))))
    .nil)
    .nil)
   .nil)))
  (.cons (.ret (.tup (.cons (.str "good") (.cons .non .nil))))
  .nil))⟩

def k_p_Runner_init : Def := ⟨"Runner.__init__", ["self", "book", "order", "is_sharing"], ["self", "book", "order", "is_sharing"],
  (.cons (.fput "Runner" "book" (.var 0) (.var 1))
  (.cons (.fput "Runner" "rest" (.var 0) (.blt .tuple (.var 2)))
  (.cons (.fput "Runner" "is_sharing" (.var 0) (.var 3))
  (.cons (.fput "Runner" "now" (.var 0) .dnew)
  (.cons (.fput "Runner" "standing" (.var 0) (.lst true .nil))
  (.cons (.fput "Runner" "broken" (.var 0) .dnew)
  (.cons (.fput "Runner" "told" (.var 0) (.lst true .nil))
  (.cons (.fput "Runner" "bad_downs" (.var 0) (.lst true .nil))
  (.cons (.fput "Runner" "kept" (.var 0) .non)
  (.cons (.fput "Runner" "is_over" (.var 0) (.bl false))
  .nil))))))))))⟩

def k_p_Runner_left : Def := ⟨"Runner.left", ["self"], ["self"],
  (.cons (.ret (.fld "Runner" "rest" (.var 0)))
  .nil)⟩

def k_p_Runner_rows : Def := ⟨"Runner.rows", ["self"], ["self"],
  (.cons (.ret (.blt .tuple (.fld "Runner" "told" (.var 0))))
  .nil)⟩

def k_p_Runner_live : Def := ⟨"Runner.live", ["self"], ["self", "name", "group"],
  (.cons (.ret (.blt .tuple (.lc false [("name", 1), ("group", 2)] (.tup [1, 2]) (.seq (.fld "Runner" "standing" (.var 0))) .none (.var 1))))
  .nil)⟩

def k_p_Runner_world : Def := ⟨"Runner.world", ["self"], ["self", "key"],
  (.cons (.ret (.blt .tuple (.lc false [("key", 1)] (.one 1) (.seq (.blt (.sorted false) (.fld "Runner" "now" (.var 0)))) (.some (.cmp .NotEq (.idx (.fld "Runner" "now" (.var 0)) (.var 1)) (.int 0))) (.tup (.cons (.var 1) (.cons (.idx (.fld "Runner" "now" (.var 0)) (.var 1)) .nil))))))
  .nil)⟩

def k_p_Runner_spoilt : Def := ⟨"Runner.spoilt", ["self"], ["self"],
  (.cons (.ret (.blt .tuple (.fld "Runner" "bad_downs" (.var 0))))
  .nil)⟩

def k_p_Runner_take_down : Def := ⟨"Runner.take_down", ["self", "name", "said"], ["self", "name", "said", "one"],
  (.cons (.fput "Runner" "standing" (.var 0) (.lc true [("one", 3)] (.one 3) (.seq (.fld "Runner" "standing" (.var 0))) (.some (.cmp .NotEq (.idx (.var 3) (.int 0)) (.var 1))) (.var 3)))
  (.cons (.ife (.cmp .NotEq (.idx (.call "all_done" 3 (.cons (.fld "Runner" "now" (.var 0)) (.cons (.idx (.call "stage_at" 2 (.cons (.fld "Runner" "book" (.var 0)) (.cons (.var 1) .nil))) (.int 4)) (.cons (.var 2) .nil)))) (.int 0)) (.str "good"))
   (.cons (.expr (.bm .append (.fld "Runner" "bad_downs" (.var 0)) (.cons (.var 1) .nil)))
   .nil)
   .nil)
  .nil))⟩

def k_p_Runner_set_up : Def := ⟨"Runner.set_up", ["self", "path", "said"], ["self", "path", "said", "name", "found"],
  (.cons (.for_ (.one 3) (.seq (.call "needs" 2 (.cons (.fld "Runner" "book" (.var 0)) (.cons (.var 1) .nil))))
   (.cons (.ife (.cmp .In (.var 3) (.fld "Runner" "broken" (.var 0)))
    (.cons (.ret (.tup (.cons (.idx (.idx (.fld "Runner" "broken" (.var 0)) (.var 3)) (.int 0)) (.cons (.var 3) .nil))))
    .nil)
    .nil)
   (.cons (.ife (.cmp .NotIn (.var 3) (.meth "Runner" "live" "Runner.live" 1 (.var 0) .nil))
    (.cons (.asg (.one 4) (.meth "Runner" "up" "Runner.up" 4 (.var 0) (.cons (.var 3) (.cons (.call "group_of" 2 (.cons (.fld "Runner" "book" (.var 0)) (.cons (.var 1) .nil))) (.cons (.var 2) .nil)))))
    (.cons (.ife (.cmp .IsNot (.var 4) .non)
     (.cons (.ret (.var 4))
     .nil)
     .nil)
    .nil))
    .nil)
   .nil)))
  (.cons (.ret .non)
  .nil))⟩

def k_p_Runner_up : Def := ⟨"Runner.up", ["self", "name", "group", "said"], ["self", "name", "group", "said", "far", "word"],
  (.cons (.asg (.one 4) (.idx (.call "stage_at" 2 (.cons (.fld "Runner" "book" (.var 0)) (.cons (.var 1) .nil))) (.int 1)))
  (.cons (.ife (.band (.cons (.cmp .Eq (.var 4) (.str "each")) (.cons (.cmp .Is (.fld "Runner" "kept" (.var 0)) .non) .nil)))
   (.cons (.fput "Runner" "kept" (.var 0) (.blt .dict (.fld "Runner" "now" (.var 0))))
   .nil)
   .nil)
  (.cons (.ife (.cmp .NotEq (.var 4) (.str "group"))
   (.cons (.asg (.one 2) (.str ""))
   .nil)
   .nil)
  (.cons (.asg (.one 5) (.idx (.call "all_done" 3 (.cons (.fld "Runner" "now" (.var 0)) (.cons (.idx (.call "stage_at" 2 (.cons (.fld "Runner" "book" (.var 0)) (.cons (.var 1) .nil))) (.int 3)) (.cons (.var 3) .nil)))) (.int 0)))
  (.cons (.ife (.cmp .Eq (.var 5) (.str "good"))
   (.cons (.expr (.bm .append (.fld "Runner" "standing" (.var 0)) (.cons (.tup (.cons (.var 1) (.cons (.var 2) .nil))) .nil)))
   (.cons (.ret .non)
   .nil))
   .nil)
  (.cons (.ife (.cmp .Eq (.var 5) (.str "bad"))
   (.cons (.asg (.one 5) (.str "broken"))
   .nil)
   .nil)
  (.cons (.ife (.cmp .NotEq (.var 4) (.str "each"))
   (.cons (.dput (.fld "Runner" "broken" (.var 0)) (.var 1) (.tup (.cons (.var 5) (.cons (.var 2) .nil))))
   .nil)
   .nil)
  (.cons (.ret (.tup (.cons (.var 5) (.cons (.var 1) .nil))))
  .nil))))))))⟩

def k_p_Runner_clear : Def := ⟨"Runner.clear", ["self", "far", "group", "said"], ["self", "far", "group", "said", "name", "mine", "wide"],
  (.cons (.for_ (.tup [4, 5]) (.seq (.rev false (.fld "Runner" "standing" (.var 0))))
   (.cons (.asg (.one 6) (.gix "WIDE" (.idx (.call "stage_at" 2 (.cons (.fld "Runner" "book" (.var 0)) (.cons (.var 4) .nil))) (.int 1))))
   (.cons (.ife (.band (.cons (.cmp .LtE (.var 6) (.var 1)) (.cons (.not (.band (.cons (.cmp .Eq (.var 6) (.int 1)) (.cons (.cmp .Eq (.var 5) (.var 2)) .nil)))) .nil)))
    (.cons (.expr (.meth "Runner" "take_down" "Runner.take_down" 3 (.var 0) (.cons (.var 4) (.cons (.var 3) .nil))))
    .nil)
    .nil)
   .nil)))
  .nil)⟩

def k_p_Runner_leave_group : Def := ⟨"Runner.leave_group", ["self", "group"], ["self", "group", "name", "word", "mine"],
  (.cons (.for_ (.one 2) (.seq (.blt (.list false) (.fld "Runner" "broken" (.var 0))))
   (.cons (.asg (.tup [3, 4]) (.idx (.fld "Runner" "broken" (.var 0)) (.var 2)))
   (.cons (.ife (.band (.cons (.cmp .Eq (.idx (.call "stage_at" 2 (.cons (.fld "Runner" "book" (.var 0)) (.cons (.var 2) .nil))) (.int 1)) (.str "group")) (.cons (.cmp .NotEq (.var 4) (.var 1)) .nil)))
    (.cons (.expr (.bm .dpop (.fld "Runner" "broken" (.var 0)) (.cons (.var 2) .nil)))
    .nil)
    .nil)
   .nil)))
  (.cons (.expr (.meth "Runner" "clear" "Runner.clear" 4 (.var 0) (.cons (.int 1) (.cons (.var 1) (.cons (.lst true .nil) .nil)))))
  .nil))⟩

def k_p_Runner_step : Def := ⟨"Runner.step", ["self"], ["self", "path", "said", "found"],
  (.cons (.ife (.cmp .Eq (.fld "Runner" "rest" (.var 0)) (.tup .nil))
   (.cons (.raise "NoStep")
   .nil)
   .nil)
  (.cons (.asg (.one 1) (.idx (.fld "Runner" "rest" (.var 0)) (.int 0)))
  (.cons (.fput "Runner" "rest" (.var 0) (.slc true (.fld "Runner" "rest" (.var 0)) (.some (.int 1)) .none))
  (.cons (.asg (.one 2) (.lst true .nil))
  (.cons (.expr (.meth "Runner" "leave_group" "Runner.leave_group" 2 (.var 0) (.cons (.call "group_of" 2 (.cons (.fld "Runner" "book" (.var 0)) (.cons (.var 1) .nil))) .nil)))
  (.cons (.fput "Runner" "kept" (.var 0) .non)
  (.cons (.asg (.one 3) (.meth "Runner" "set_up" "Runner.set_up" 3 (.var 0) (.cons (.var 1) (.cons (.var 2) .nil))))
  (.cons (.ife (.cmp .Is (.fld "Runner" "kept" (.var 0)) .non)
   (.cons (.fput "Runner" "kept" (.var 0) (.blt .dict (.fld "Runner" "now" (.var 0))))
   .nil)
   .nil)
  (.cons (.ife (.cmp .Is (.var 3) .non)
   (.cons (.asg (.one 3) (.call "all_done" 3 (.cons (.fld "Runner" "now" (.var 0)) (.cons (.idx (.call "try_at" 2 (.cons (.fld "Runner" "book" (.var 0)) (.cons (.var 1) .nil))) (.int 4)) (.cons (.var 2) .nil)))))
   .nil)
   .nil)
  (.cons (.expr (.meth "Runner" "clear" "Runner.clear" 4 (.var 0) (.cons (.int 0) (.cons (.str "") (.cons (.var 2) .nil)))))
  (.cons (.ife (.not (.fld "Runner" "is_sharing" (.var 0)))
   (.cons (.fput "Runner" "now" (.var 0) (.fld "Runner" "kept" (.var 0)))
   .nil)
   .nil)
  (.cons (.expr (.bm .append (.fld "Runner" "told" (.var 0)) (.cons (.tup (.cons (.var 1) (.cons (.idx (.var 3) (.int 0)) (.cons (.idx (.var 3) (.int 1)) (.cons (.blt .tuple (.var 2)) .nil))))) .nil)))
  (.cons (.ret (.idx (.fld "Runner" "told" (.var 0)) (.neg (.int 1))))
  .nil)))))))))))))⟩

def k_p_Runner_end : Def := ⟨"Runner.end", ["self"], ["self"],
  (.cons (.ife (.fld "Runner" "is_over" (.var 0))
   (.cons (.raise "NoStep")
   .nil)
   .nil)
  (.cons (.fput "Runner" "is_over" (.var 0) (.bl true))
  (.cons (.fput "Runner" "rest" (.var 0) (.tup .nil))
  (.cons (.expr (.meth "Runner" "clear" "Runner.clear" 4 (.var 0) (.cons (.int 2) (.cons .non (.cons (.lst true .nil) .nil)))))
  .nil))))⟩

def k_p_run : Def := ⟨"run", ["book", "order", "is_sharing"], ["book", "order", "is_sharing", "runner"],
  (.cons (.asg (.one 3) (.mk "Runner" "Runner.__init__" 4 (.cons (.var 0) (.cons (.var 1) (.cons (.var 2) .nil)))))
  (.cons (.whl 10000 (.cmp .NotEq (.meth "Runner" "left" "Runner.left" 1 (.var 3) .nil) (.tup .nil))
   (.cons (.expr (.meth "Runner" "step" "Runner.step" 1 (.var 3) .nil))
   .nil))
  (.cons (.expr (.meth "Runner" "end" "Runner.end" 1 (.var 3) .nil))
  (.cons (.ret (.tup (.cons (.meth "Runner" "rows" "Runner.rows" 1 (.var 3) .nil) (.cons (.meth "Runner" "spoilt" "Runner.spoilt" 1 (.var 3) .nil) (.cons (.meth "Runner" "world" "Runner.world" 1 (.var 3) .nil) .nil)))))
  .nil))))⟩


/-! ### worlds -/
abbrev Wd := List (Str × Int)
def wD (w : Wd) : List (Key × D) := w.map fun p => (Sum.inr p.1, D.int p.2)
def wget (w : Wd) (k : Str) : Int := (valG w k).getD 0
theorem wD_val (w : Wd) (k : Str) : valG (wD w) (Sum.inr k) = (valG w k).map D.int := by
  unfold valG wD
  rw [List.find?_map]
  induction w with
  | nil => rfl
  | cons p w ih =>
    simp only [List.find?_cons, Function.comp_def] at ih ⊢
    by_cases h : p.1 = k
    · simp [h]
    · have : ¬ (Sum.inr p.1 : Key) = Sum.inr k := fun z => h (by injection z)
      simp only [h, this, decide_false]
      exact ih
theorem wD_get (w : Wd) (k : Str) : (valG (wD w) (Sum.inr k)).getD (.int 0) = .int (wget w k) := by
  rw [wD_val]; unfold wget
  cases valG w k <;> rfl
theorem wD_put (w : Wd) (k : Str) (v : Int) : putG (wD w) (Sum.inr k) (.int v) = wD (putG w k v) := by
  unfold putG
  have e : ((wD w).any fun kv => decide (kv.1 = Sum.inr k)) = (w.any fun kv => decide (kv.1 = k)) := by
    unfold wD
    rw [List.any_map]
    congr 1
    funext p
    simp
  rw [e]
  by_cases h : (w.any fun kv => decide (kv.1 = k)) = true
  · rw [if_pos h, if_pos h]
    unfold wD
    rw [List.map_map, List.map_map]
    congr 1
    funext p
    by_cases hp : p.1 = k
    · simp [hp]
    · simp [hp]
  · rw [if_neg h, if_neg h]
    unfold wD
    rw [List.map_append]; rfl
theorem wD_len (w : Wd) : (wD w).length = w.length := by simp [wD]
theorem putG_len {κ τ : Type} [DecidableEq κ] (w : List (κ × τ)) (k : κ) (v : τ) : (putG w k v).length ≤ w.length + 1 := by
  unfold putG
  split
  · simp
  · simp
/-! ### deeds -/
/-- what a deed comes to -/
def doDeed (w : Wd) (sd : List Str) : Deed → Wd × List Str × Option Str
  | .set k n => (putG w k n, sd, none)
  | .add k n => (putG w k (wget w k + n), sd, none)
  | .say x => (w, sd ++ [x], none)
  | .leave => (w, sd, some "left")
  | .fail => (w, sd, some "bad")
  | .ask k n => (w, sd, if wget w k = n then none else some "bad")
def doAll (w : Wd) (sd : List Str) (i : Nat) : List Deed → Wd × List Str × Str × Option Nat
  | [] => (w, sd, "good", none)
  | d :: ds => match doDeed w sd d with
    | (w1, sd1, some x) => (w1, sd1, x, some i)
    | (w1, sd1, none) => doAll w1 sd1 (i + 1) ds
def oS : Option Str → D
  | none => .non
  | some x => .str x
def oN : Option Nat → D
  | none => .non
  | some i => .int (i : Nat)
def stW (st : Sto) (w : Nat) (now : Wd) (sd : Nat) (said : List Str) : Sto := (st.set w (.dct (wD now))).set sd (.lst (said.map .str))
theorem stW_same {st : Sto} {w sd : Nat} {now : Wd} {said : List Str} (h1 : st[w]? = some (.dct (wD now))) (h2 : st[sd]? = some (.lst (said.map .str))) : stW st w now sd said = st := by
  unfold stW
  rw [set_same h1, set_same h2]
theorem stW_now {st : Sto} {w sd : Nat} {now : Wd} {said : List Str} (h1 : st[w]? = some (.dct (wD now))) (h2 : st[sd]? = some (.lst (said.map .str))) (now1 : Wd) : stW st w now1 sd said = st.set w (.dct (wD now1)) := by
  have hne : w ≠ sd := fun z => by subst z; rw [h1] at h2; cases h2
  unfold stW
  exact set_same (by rw [List.getElem?_set_ne hne]; exact h2)
theorem stW_said {st : Sto} {w sd : Nat} {now : Wd} (h1 : st[w]? = some (.dct (wD now))) (said1 : List Str) : stW st w now sd said1 = st.set sd (.lst (said1.map .str)) := by
  unfold stW
  rw [set_same h1]
theorem stW_len (st : Sto) (w : Nat) (now : Wd) (sd : Nat) (said : List Str) : (stW st w now sd said).length = st.length := by simp [stW]
theorem stW_w {st : Sto} {w sd : Nat} {now : Wd} {said : List Str} (hw : w < st.length) (hne : w ≠ sd) : (stW st w now sd said)[w]? = some (.dct (wD now)) := by
  unfold stW
  rw [List.getElem?_set_ne (Ne.symm hne), List.getElem?_set_self hw]
theorem stW_s {st : Sto} {w sd : Nat} {now : Wd} {said : List Str} (hw : sd < st.length) : (stW st w now sd said)[sd]? = some (.lst (said.map .str)) := by
  unfold stW
  rw [List.getElem?_set_self (by simpa using hw)]
theorem stW_o {st : Sto} {w sd j : Nat} {now : Wd} {said : List Str} (h1 : w ≠ j) (h2 : sd ≠ j) : (stW st w now sd said)[j]? = st[j]? := by
  unfold stW
  rw [List.getElem?_set_ne h2, List.getElem?_set_ne h1]
theorem stW_W (st : Sto) {w sd : Nat} (hne : w ≠ sd) (n1 n2 : Wd) (s1 s2 : List Str) : stW (stW st w n1 sd s1) w n2 sd s2 = stW st w n2 sd s2 := by
  unfold stW
  rw [List.set_comm _ _ (Ne.symm hne), List.set_set, List.set_set, List.set_comm _ _ hne]
section
variable {T : Tab} {gc : Str → Option D} {n : Nat} {st : Sto}
theorem lst_app {sd : Nat} {l : List D} (h : st[sd]? = some (.lst l)) (hl : l.length < 16777216) (x : D) (P : D → Sto → Prop) (E : Str → Sto → Prop) : wp (gAppend (.ref sd) [x]) st P E = P .non (st.set sd (.lst (l ++ [x]))) := by
  unfold wp gAppend
  simp [h, hl]
theorem bt_lst' {sd : Nat} {l : List D} (h : st[sd]? = some (.lst l)) : btOk st (.ref sd) .list = true := by simp [btOk, lstOf, h]
theorem dput_at {w : Nat} {kvs : List (Key × D)} (h : st[w]? = some (.dct kvs)) (hl : kvs.length < 16777216) (k : Str) (v : D) (P : Unit → Sto → Prop) (E : Str → Sto → Prop) : wp (putT (.ref w) (.str k) v) st P E = P () (st.set w (.dct (putG kvs (.inr k) v))) := by
  unfold wp putT
  simp [h, hl]
theorem done_at (hD : T.get "done" = some k_p_done) (hn : 0 < n) {w sd : Nat} {now : Wd} {said : List Str} (h1 : st[w]? = some (.dct (wD now))) (h2 : st[sd]? = some (.lst (said.map .str))) (hl : now.length < 16777216) (hs : said.length < 16777216) (d : Deed) (P : D → Sto → Prop) (E : Str → Sto → Prop) :
    wp (cfN T gc n "done" [.ref w, d.d, .ref sd]) st P E = P (oS (doDeed now said d).2.2) (stW st w (doDeed now said d).1 sd (doDeed now said d).2.1) := by
  obtain ⟨n, rfl⟩ : ∃ k, n = k + 1 := ⟨n - 1, by omega⟩
  rw [w_fn hD]
  cases d with
  | set k x =>
    simp [k_p_done, Deed.d]
    rw [dput_at h1 (by rw [wD_len]; exact hl), wD_put, fnQ_rt (by simp) (fun i e => by cases e)]
    simp [doDeed, oS, stW_now h1 h2]
  | add k x =>
    simp [k_p_done, Deed.d, bt_dct h1]
    rw [w_get h1]
    simp [wD_get]
    rw [dput_at h1 (by rw [wD_len]; exact hl), wD_put, fnQ_rt (by simp) (fun i e => by cases e)]
    simp [doDeed, oS, stW_now h1 h2]
  | ask k x =>
    simp [k_p_done, Deed.d, bt_dct h1]
    rw [w_get h1]
    simp [wD_get]
    by_cases h : wget now k = x
    · simp [h]
      rw [fnQ_rt rfl (fun i e => by cases e)]
      simp [doDeed, oS, h, stW_same h1 h2]
    · simp [h]
      rw [fnQ_rt rfl (fun i e => by cases e)]
      simp [doDeed, oS, h, stW_same h1 h2]
  | say x =>
    simp [k_p_done, Deed.d, bt_lst' h2]
    rw [lst_app h2 (by simpa using hs)]
    rw [fnQ_rt (by simp) (fun i e => by cases e)]
    simp [doDeed, oS, stW_said h1]
  | fail =>
    simp [k_p_done, Deed.d]
    rw [fnQ_rt rfl (fun i e => by cases e)]
    simp [doDeed, oS, stW_same h1 h2]
  | leave =>
    simp [k_p_done, Deed.d]
    rw [fnQ_rt rfl (fun i e => by cases e)]
    simp [doDeed, oS, stW_same h1 h2]
theorem doDeed_len (w : Wd) (sd : List Str) (d : Deed) : (doDeed w sd d).1.length ≤ w.length + 1 ∧ (doDeed w sd d).2.1.length ≤ sd.length + 1 := by
  cases d <;> simp [doDeed, putG_len]
theorem doAll_len : ∀ (ds : List Deed) (w : Wd) (sd : List Str) (i : Nat), (doAll w sd i ds).1.length ≤ w.length + ds.length ∧ (doAll w sd i ds).2.1.length ≤ sd.length + ds.length
  | [], w, sd, i => by simp [doAll]
  | d :: ds, w, sd, i => by
    have h1 := doDeed_len w sd d
    unfold doAll
    rcases hd : doDeed w sd d with ⟨w1, sd1, o⟩
    rw [hd] at h1
    cases o with
    | some x => simp at h1 ⊢; omega
    | none =>
      have h2 := doAll_len ds w1 sd1 (i + 1)
      simp at h1 h2 ⊢
      omega
def lpQ (src : Src) (t : Tg) (body : MS) (ds : List D) (Q : Out → Sto → Prop) : Out → Sto → Prop
  | .nx ρ, st => wpS (loopF src t body ds) ρ st Q
  | .ct ρ, st => wpS (loopF src t body ds) ρ st Q
  | .bk ρ, st => Q (.nx ρ) st
  | o, st => Q o st
section
variable {src : Src} {t : Tg} {body : MS} {ds : List D} {Q : Out → Sto → Prop} {ρ ρ1 : Lo} {d : D}
@[simp ↓] theorem lpQ_nx : lpQ src t body ds Q (.nx ρ) st = wpS (loopF src t body ds) ρ st Q := rfl
@[simp ↓] theorem lpQ_ct : lpQ src t body ds Q (.ct ρ) st = wpS (loopF src t body ds) ρ st Q := rfl
@[simp ↓] theorem lpQ_bk : lpQ src t body ds Q (.bk ρ) st = Q (.nx ρ) st := rfl
@[simp ↓] theorem lpQ_rt : lpQ src t body ds Q (.rt d) st = Q (.rt d) st := rfl
@[simp ↓] theorem lpQ_ex {c : Str} : lpQ src t body ds Q (.ex c ρ) st = Q (.ex c ρ) st := rfl
theorem loop_nil (h : src.ok st) : wpS (loopF src t body []) ρ st Q = Q (.nx ρ) st := by
  unfold wpS loopF
  rw [if_pos h]
theorem loop_cons (h : src.ok st) (hb : bindT t d ρ = some ρ1) : wpS (loopF src t body (d :: ds)) ρ st Q = wpS body ρ1 st (lpQ src t body ds Q) := by
  unfold wpS
  rw [loopF]
  dsimp only
  rw [if_pos h, hb]
  dsimp only
  rcases body ρ1 st with _ | ⟨_ | _ | _ | _ | _, st1⟩ <;> rfl
end
def whD (o : Str × Option Nat) : D := .tup [.str o.1, oN o.2]
theorem all_loop (hD : T.get "done" = some k_p_done) (hn : 0 < n) {w sd : Nat} {dd : D} {src : Src} (hsrc : src.grd = none) (Q : Out → Sto → Prop) : ∀ (ds : List Deed) (i : Nat) (st : Sto) (now : Wd) (said : List Str) (a b c : Option D), st[w]? = some (.dct (wD now)) → st[sd]? = some (.lst (said.map .str)) →
    now.length + ds.length < 16777216 → said.length + ds.length < 16777216 →
    (∀ a b c, (doAll now said i ds).2.2 = (("good" : Str), (none : Option Nat)) → Q (.nx [some (.ref w), some dd, some (.ref sd), a, b, c]) (stW st w (doAll now said i ds).1 sd (doAll now said i ds).2.1)) →
    (∀ x k, (doAll now said i ds).2.2 = (x, some k) → Q (.rt (.tup [.str x, .int (k : Nat)])) (stW st w (doAll now said i ds).1 sd (doAll now said i ds).2.1)) →
    wpS (loopF src (.tup [3, 4]) (exSs (cfN T gc n) gc (.cons (.asg (.one 5) (.call "done" 3 (.cons (.var 0) (.cons (.var 4) (.cons (.var 2) .nil))))) (.cons (.ife (.cmp .IsNot (.var 5) .non) (.cons (.ret (.tup (.cons (.var 5) (.cons (.var 3) .nil)))) .nil) .nil) .nil))) ((ds.zipIdx i).map fun p => D.tup [.int (p.2 : Nat), p.1.d])) [some (.ref w), some dd, some (.ref sd), a, b, c] st Q
  | [], i, st, now, said, a, b, c, h1, h2, hl, hs, q1, q2 => by
    have hok : src.ok st := by unfold Src.ok; rw [hsrc]; trivial
    show wpS (loopF src _ _ []) _ _ _
    rw [loop_nil hok]
    have := q1 a b c rfl
    simpa [doAll, stW_same h1 h2] using this
  | d :: ds, i, st, now, said, a, b, c, h1, h2, hl, hs, q1, q2 => by
    have hok : src.ok st := by unfold Src.ok; rw [hsrc]; trivial
    have hlen := doDeed_len now said d
    have hne : w ≠ sd := fun z => by subst z; rw [h1] at h2; cases h2
    have hwl : w < st.length := (List.getElem?_eq_some_iff.mp h1).1
    have hsl : sd < st.length := (List.getElem?_eq_some_iff.mp h2).1
    rw [List.zipIdx_cons, List.map_cons, loop_cons hok (ρ1 := [some (.ref w), some dd, some (.ref sd), some (.int (i : Nat)), some d.d, c]) rfl]
    simp only [List.length_cons] at hl hs
    simp
    rw [done_at hD hn h1 h2 (by omega) (by omega)]
    unfold doAll at q1 q2
    rcases hd : doDeed now said d with ⟨w1, sd1, o⟩
    rw [hd] at q1 q2 hlen
    cases o with
    | some x =>
      simp [oS, D.isNon]
      exact q2 x i rfl
    | none =>
      simp [oS, D.isNon]
      have ih := all_loop hD hn (dd := dd) hsrc Q ds (i + 1) (stW st w w1 sd sd1) w1 sd1 (some (.int (i : Nat))) (some d.d) (some .non) (stW_w hwl hne) (stW_s hsl) (by simp at hlen; omega) (by simp at hlen; omega)
      simp only [stW_W st hne] at ih
      exact ih q1 q2
theorem enumD_map {α : Type} (f : α → D) (l : List α) : enumD (l.map f) = (l.zipIdx 0).map fun p => D.tup [.int (p.2 : Nat), f p.1] := by
  unfold enumD
  rw [List.zipIdx_map, List.map_map]
  rfl
theorem all_done_at (hD : T.get "done" = some k_p_done) (hA : T.get "all_done" = some k_p_all_done) (hn : 1 < n) {w sd : Nat} {now : Wd} {said : List Str} (h1 : st[w]? = some (.dct (wD now))) (h2 : st[sd]? = some (.lst (said.map .str))) (ds : List Deed) (hl : now.length + ds.length < 16777216) (hs : said.length + ds.length < 16777216) (P : D → Sto → Prop) (E : Str → Sto → Prop) :
    wp (cfN T gc n "all_done" [.ref w, dsD ds, .ref sd]) st P E = P (whD (doAll now said 0 ds).2.2) (stW st w (doAll now said 0 ds).1 sd (doAll now said 0 ds).2.1) := by
  refine wp_det ?_ P E
  obtain ⟨n, rfl⟩ : ∃ k, n = k + 1 := ⟨n - 1, by omega⟩
  rw [w_fn hA]
  simp [k_p_all_done, dsD, srcE, enumD_map]
  refine all_loop hD (by omega) rfl _ ds 0 st now said none none none h1 h2 hl hs (fun a b c e => ?_) (fun x k e => ?_)
  · simp
    rw [fnQ_rt (by rw [stW_len]) (fun i e => by cases e)]
    rw [e]
    exact ⟨rfl, rfl⟩
  · simp
    rw [fnQ_rt (by rw [stW_len]) (fun i e => by cases e)]
    rw [e]
    exact ⟨rfl, rfl⟩
end
end TB
set_option Elab.async false
set_option linter.all false
set_option maxRecDepth 100000
set_option maxHeartbeats 4000000
/-! TB31: a runner as plain data, and how it stands in the store -/
namespace TB
open PySem PySem.Spec L2
inductive Wh where
  | non | num (i : Nat) | nm (x : Str)
def Wh.d : Wh → D
  | .non => .non
  | .num i => .int (i : Nat)
  | .nm x => .str x
def whOf : Option Nat → Wh
  | none => .non
  | some i => .num i
theorem whOf_d (o : Option Nat) : (whOf o).d = oN o := by cases o <;> rfl
structure RowT where
  path : Str
  word : Str
  wh : Wh
  said : List Str
def RowT.d (t : RowT) : D := .tup [.str t.path, .str t.word, t.wh.d, sD t.said]
/-- a runner, but its book -/
structure RSt where
  rest : List Str
  share : Bool
  now : Wd
  stand : List (Str × Str)
  brok : List (Str × Str × Str)
  told : List RowT
  bad : List Str
  over : Bool
def Book.ups (b : Book) (x : Str) : List Deed := ((b.stages.find? fun s => decide (s.name = x)).map Stage.ups).getD []
def Book.downs (b : Book) (x : Str) : List Deed := ((b.stages.find? fun s => decide (s.name = x)).map Stage.downs).getD []
def takeDown (b : Book) (s : RSt) (said : List Str) (x : Str) : RSt × List Str :=
  ({ s with now := (doAll s.now said 0 (b.downs x)).1, stand := s.stand.filter fun p => !decide (p.1 = x),
            bad := if (doAll s.now said 0 (b.downs x)).2.2.1 = "good" then s.bad else s.bad ++ [x] }, (doAll s.now said 0 (b.downs x)).2.1)
def goes (b : Book) (far : Int) (g : Option Str) (p : Str × Str) : Bool := decide (farN (b.reachOf p.1) ≤ far) && !(decide (farN (b.reachOf p.1) = 1) && decide (some p.2 = g))
def clearL (b : Book) (far : Int) (g : Option Str) : List (Str × Str) → RSt × List Str → RSt × List Str
  | [], s => s
  | p :: l, s => clearL b far g l (if goes b far g p then takeDown b s.1 s.2 p.1 else s)
def clear (b : Book) (far : Int) (g : Option Str) (s : RSt) (said : List Str) : RSt × List Str := clearL b far g s.stand.reverse (s, said)
def lostB (b : Book) (g : Str) (p : Str × Str × Str) : Bool := decide (b.reachOf p.1 = "group") && !decide (p.2.2 = g)
def leaveGroup (b : Book) (g : Str) (s : RSt) : RSt := (clear b 1 (some g) { s with brok := s.brok.filter fun p => !lostB b g p } []).1
/-- a stage is set up: the runner, what was said, the world that is kept, what it came to -/
def upM (b : Book) (s : RSt) (said : List Str) (kept : Option Wd) (x g : Str) : RSt × List Str × Option Wd × Option (Str × Str) :=
  let kept' := if b.reachOf x = "each" ∧ kept = none then some s.now else kept
  let g' := if b.reachOf x = "group" then g else ""
  let r := doAll s.now said 0 (b.ups x)
  if r.2.2.1 = "good" then ({ s with now := r.1, stand := s.stand ++ [(x, g')] }, r.2.1, kept', none)
  else
    let w := if r.2.2.1 = "bad" then ("broken" : Str) else r.2.2.1
    ({ s with now := r.1, brok := if b.reachOf x = "each" then s.brok else putG s.brok x (w, g') }, r.2.1, kept', some (w, x))
def setUpL (b : Book) (g : Str) : List Str → RSt → List Str → Option Wd → RSt × List Str × Option Wd × Option (Str × Str)
  | [], s, said, kept => (s, said, kept, none)
  | x :: l, s, said, kept => match valG s.brok x with
    | some q => (s, said, kept, some (q.1, x))
    | none => if x ∈ s.stand.map (·.1) then setUpL b g l s said kept else match upM b s said kept x g with
      | (s1, said1, kept1, some o) => (s1, said1, kept1, some o)
      | (s1, said1, kept1, none) => setUpL b g l s1 said1 kept1
def Book.rowOf (b : Book) (p : Str) : Row := (b.rows.find? fun r => decide (r.path = p)).getD ⟨"", "", [], [], []⟩
/-- a try is run -/
def stepM (b : Book) (s : RSt) : RSt × RowT :=
  let p := s.rest.headD ""
  let r := b.rowOf p
  let s1 := leaveGroup b r.group { s with rest := s.rest.tail }
  let u := setUpL b r.group (b.need r.wants) s1 [] none
  let kept := u.2.2.1.getD u.1.now
  let v : RSt × List Str × Str × Wh := match u.2.2.2 with
    | some o => (u.1, u.2.1, o.1, .nm o.2)
    | none => ({ u.1 with now := (doAll u.1.now u.2.1 0 r.deeds).1 }, (doAll u.1.now u.2.1 0 r.deeds).2.1, (doAll u.1.now u.2.1 0 r.deeds).2.2.1, whOf (doAll u.1.now u.2.1 0 r.deeds).2.2.2)
  let c := clear b 0 (some "") v.1 v.2.1
  let t : RowT := ⟨p, v.2.2.1, v.2.2.2, c.2⟩
  ({ c.1 with now := if s.share then c.1.now else kept, told := c.1.told ++ [t] }, t)
def endM (b : Book) (s : RSt) : RSt := (clear b 2 none { s with over := true, rest := [] } []).1
def freshM (order : List Str) (sh : Bool) : RSt := ⟨order, sh, [], [], [], [], [], false⟩
/-! ### what is kept between two deeds of a runner -/
def Deed.keyIn (KS : List Str) : Deed → Prop
  | .set k _ => k ∈ KS
  | .add k _ => k ∈ KS
  | _ => True
structure okD (KS : List Str) (ds : List Deed) : Prop where
  few : ds.length ≤ 30
  key : ∀ d ∈ ds, d.keyIn KS
structure Book.run (b : Book) (KS : List Str) : Prop where
  st : b.stOk
  ft : b.fits
  nd : (b.rows.map Row.path).Nodup
  wn : ∀ r ∈ b.rows, (∀ w ∈ r.wants, w ∈ b.names) ∧ r.wants.length ≤ 10
  ud : ∀ s ∈ b.stages, okD KS s.ups ∧ okD KS s.downs
  rd : ∀ r ∈ b.rows, okD KS r.deeds
  ks : KS.length < 64
structure okW (KS : List Str) (w : Wd) : Prop where
  key : ∀ p ∈ w, p.1 ∈ KS
  nd : (w.map (·.1)).Nodup
structure RSt.ok (b : Book) (KS : List Str) (c : Nat) (s : RSt) : Prop where
  now : okW KS s.now
  st : ∀ p ∈ s.stand, p.1 ∈ b.names
  sn : (s.stand.map (·.1)).Nodup
  br : ∀ p ∈ s.brok, p.1 ∈ b.names
  bn : (s.brok.map (·.1)).Nodup
  rest : ∀ p ∈ s.rest, p ∈ b.rows.map Row.path
  told : s.told.length ≤ c
  bad : s.bad.length ≤ 100 * c
/-! ### in the store -/
structure Fp where
  now : Nat
  stand : Nat
  brok : Nat
  told : Nat
  bad : Nat
def Fp.all (f : Fp) : List Nat := [f.now, f.stand, f.brok, f.told, f.bad]
def pairD (p : Str × Str) : D := .tup [.str p.1, .str p.2]
def bD (l : List (Str × Str × Str)) : List (Key × D) := l.map fun p => (Sum.inr p.1, .tup [.str p.2.1, .str p.2.2])
def insF (b : Book) (s : RSt) (f : Fp) (kD : D) : List (Str × D) :=
  [("book", b.d), ("rest", sD s.rest), ("is_sharing", .bl s.share), ("now", .ref f.now), ("standing", .ref f.stand), ("broken", .ref f.brok), ("told", .ref f.told), ("bad_downs", .ref f.bad), ("kept", kD), ("is_over", .bl s.over)]
structure RunAt (st : Sto) (r : Nat) (b : Book) (s : RSt) (f : Fp) (kD : D) : Prop where
  ins : st[r]? = some (.ins "Runner" (insF b s f kD))
  now : st[f.now]? = some (.dct (wD s.now))
  stand : st[f.stand]? = some (.lst (s.stand.map pairD))
  brok : st[f.brok]? = some (.dct (bD s.brok))
  told : st[f.told]? = some (.lst (s.told.map RowT.d))
  bad : st[f.bad]? = some (.lst (s.bad.map .str))
  n1 : f.now ≠ f.brok
  n2 : f.stand ≠ f.told
  n3 : f.stand ≠ f.bad
  n4 : f.told ≠ f.bad
structure Fr (st0 : Sto) (X : List Nat) (st1 : Sto) : Prop where
  len : st0.length ≤ st1.length
  same : ∀ j, j < st0.length → j ∉ X → st1[j]? = st0[j]?
/-- i may be written: one of X, or a new one -/
def Own (st0 : Sto) (X : List Nat) (i : Nat) : Prop := i ∈ X ∨ st0.length ≤ i
structure Mid (st0 : Sto) (X : List Nat) (st1 : Sto) (r : Nat) (b : Book) (s : RSt) (f : Fp) (kD : D) : Prop where
  at_ : RunAt st1 r b s f kD
  fr : Fr st0 X st1
  r : Own st0 X r
  own : ∀ i ∈ f.all, Own st0 X i
theorem Fr.refl (st : Sto) (X : List Nat) : Fr st X st := ⟨Nat.le_refl _, fun _ _ _ => rfl⟩
theorem Fr.set {st0 st1 : Sto} {X : List Nat} (h : Fr st0 X st1) {i : Nat} (hi : Own st0 X i) (o : MO) : Fr st0 X (st1.set i o) := by
  refine ⟨by simpa using h.len, fun j hj hX => ?_⟩
  have hne : i ≠ j := fun z => by
    subst z
    rcases hi with hi | hi
    · exact hX hi
    · omega
  rw [List.getElem?_set_ne hne]
  exact h.same j hj hX
theorem Fr.push {st0 st1 : Sto} {X : List Nat} (h : Fr st0 X st1) (l : List MO) : Fr st0 X (st1 ++ l) := by
  refine ⟨by have := h.len; simp; omega, fun j hj hX => ?_⟩
  rw [List.getElem?_append_left (by have := h.len; omega)]
  exact h.same j hj hX
theorem Fr.take {st0 st1 : Sto} {X : List Nat} (h : Fr st0 X st1) {n : Nat} (hn : st0.length ≤ n) : Fr st0 X (st1.take n) := by
  refine ⟨by have := h.len; simp; omega, fun j hj hX => ?_⟩
  rw [List.getElem?_take_of_lt (by omega)]
  exact h.same j hj hX
section
variable {st : Sto} {r : Nat} {b : Book} {s : RSt} {f : Fp} {kD : D}
theorem lt_of {i : Nat} {o : MO} (h : st[i]? = some o) : i < st.length := (List.getElem?_eq_some_iff.mp h).1
theorem get_push {i : Nat} {o : MO} (h : st[i]? = some o) (l : List MO) : (st ++ l)[i]? = some o := by
  rw [List.getElem?_append_left (lt_of h)]; exact h
theorem get_set {i j : Nat} {o p : MO} (h : st[i]? = some o) (hne : j ≠ i) : (st.set j p)[i]? = some o := by
  rw [List.getElem?_set_ne hne]; exact h
theorem get_self {i : Nat} {o p : MO} (h : st[i]? = some o) : (st.set i p)[i]? = some p := List.getElem?_set_self (lt_of h)
theorem ne_of_get {i j : Nat} {o p : MO} (h : st[i]? = some o) (h2 : st[j]? = some p) (hne : o ≠ p) : i ≠ j := fun z => by
  subst z; rw [h] at h2; cases h2; exact hne rfl
theorem RunAt.push (h : RunAt st r b s f kD) (l : List MO) : RunAt (st ++ l) r b s f kD :=
  ⟨get_push h.ins l, get_push h.now l, get_push h.stand l, get_push h.brok l, get_push h.told l, get_push h.bad l, h.n1, h.n2, h.n3, h.n4⟩
theorem RunAt.other (h : RunAt st r b s f kD) {j : Nat} (o : MO) (hr : j ≠ r) (hf : j ∉ f.all) : RunAt (st.set j o) r b s f kD := by
  simp only [Fp.all, List.mem_cons, List.not_mem_nil, or_false, not_or] at hf
  exact ⟨get_set h.ins hr, get_set h.now hf.1, get_set h.stand hf.2.1, get_set h.brok hf.2.2.1, get_set h.told hf.2.2.2.1, get_set h.bad hf.2.2.2.2, h.n1, h.n2, h.n3, h.n4⟩
theorem RunAt.take (h : RunAt st r b s f kD) {n : Nat} (hr : r < n) (hf : ∀ i ∈ f.all, i < n) : RunAt (st.take n) r b s f kD := by
  simp only [Fp.all, List.mem_cons, List.not_mem_nil, or_false] at hf
  have g : ∀ {i : Nat} {o : MO}, st[i]? = some o → i < n → (st.take n)[i]? = some o := fun h1 h2 => by
    rw [List.getElem?_take_of_lt h2]; exact h1
  exact ⟨g h.ins hr, g h.now (hf _ (.inl rfl)), g h.stand (hf _ (.inr (.inl rfl))), g h.brok (hf _ (.inr (.inr (.inl rfl)))), g h.told (hf _ (.inr (.inr (.inr (.inl rfl))))), g h.bad (hf _ (.inr (.inr (.inr (.inr rfl))))), h.n1, h.n2, h.n3, h.n4⟩
theorem RunAt.nr (h : RunAt st r b s f kD) : r ∉ f.all := by
  simp only [Fp.all, List.mem_cons, List.not_mem_nil, or_false, not_or]
  have e := h.ins
  exact ⟨ne_of_get e h.now (by simp), ne_of_get e h.stand (by simp), ne_of_get e h.brok (by simp), ne_of_get e h.told (by simp), ne_of_get e h.bad (by simp)⟩
theorem RunAt.lt (h : RunAt st r b s f kD) : ∀ i ∈ f.all, i < st.length := by
  simp only [Fp.all, List.mem_cons, List.not_mem_nil, or_false]
  rintro i (rfl | rfl | rfl | rfl | rfl)
  · exact lt_of h.now
  · exact lt_of h.stand
  · exact lt_of h.brok
  · exact lt_of h.told
  · exact lt_of h.bad
/-- the fields are written -/
theorem RunAt.fld (h : RunAt st r b s f kD) {s' : RSt} {kD' : D} (hn : s'.now = s.now) (hs : s'.stand = s.stand) (hb : s'.brok = s.brok) (ht : s'.told = s.told) (hd : s'.bad = s.bad) : RunAt (st.set r (.ins "Runner" (insF b s' f kD'))) r b s' f kD' := by
  have hnr := h.nr
  simp only [Fp.all, List.mem_cons, List.not_mem_nil, or_false, not_or] at hnr
  exact ⟨get_self h.ins, by rw [hn]; exact get_set h.now hnr.1, by rw [hs]; exact get_set h.stand hnr.2.1, by rw [hb]; exact get_set h.brok hnr.2.2.1, by rw [ht]; exact get_set h.told hnr.2.2.2.1, by rw [hd]; exact get_set h.bad hnr.2.2.2.2, h.n1, h.n2, h.n3, h.n4⟩
theorem RunAt.ne_lst (h : RunAt st r b s f kD) {sd : Nat} {l : List D} (hs : st[sd]? = some (.lst l)) : sd ≠ r ∧ sd ≠ f.now ∧ sd ≠ f.brok :=
  ⟨ne_of_get hs h.ins (by simp), ne_of_get hs h.now (by simp), ne_of_get hs h.brok (by simp)⟩
theorem RunAt.setNow (h : RunAt st r b s f kD) (w : Wd) : RunAt (st.set f.now (.dct (wD w))) r b { s with now := w } f kD := by
  have hnr := h.nr
  simp only [Fp.all, List.mem_cons, List.not_mem_nil, or_false, not_or] at hnr
  exact ⟨get_set h.ins (Ne.symm hnr.1), get_self h.now, get_set h.stand (ne_of_get h.now h.stand (by simp)), get_set h.brok h.n1, get_set h.told (ne_of_get h.now h.told (by simp)), get_set h.bad (ne_of_get h.now h.bad (by simp)), h.n1, h.n2, h.n3, h.n4⟩
theorem RunAt.setBrok (h : RunAt st r b s f kD) (w : List (Str × Str × Str)) : RunAt (st.set f.brok (.dct (bD w))) r b { s with brok := w } f kD := by
  have hnr := h.nr
  simp only [Fp.all, List.mem_cons, List.not_mem_nil, or_false, not_or] at hnr
  exact ⟨get_set h.ins (Ne.symm hnr.2.2.1), get_set h.now (Ne.symm h.n1), get_set h.stand (ne_of_get h.brok h.stand (by simp)), get_self h.brok, get_set h.told (ne_of_get h.brok h.told (by simp)), get_set h.bad (ne_of_get h.brok h.bad (by simp)), h.n1, h.n2, h.n3, h.n4⟩
theorem RunAt.setStand (h : RunAt st r b s f kD) (w : List (Str × Str)) : RunAt (st.set f.stand (.lst (w.map pairD))) r b { s with stand := w } f kD := by
  have hnr := h.nr
  simp only [Fp.all, List.mem_cons, List.not_mem_nil, or_false, not_or] at hnr
  exact ⟨get_set h.ins (Ne.symm hnr.2.1), get_set h.now (ne_of_get h.stand h.now (by simp)), get_self h.stand, get_set h.brok (ne_of_get h.stand h.brok (by simp)), get_set h.told h.n2, get_set h.bad h.n3, h.n1, h.n2, h.n3, h.n4⟩
theorem RunAt.setTold (h : RunAt st r b s f kD) (w : List RowT) : RunAt (st.set f.told (.lst (w.map RowT.d))) r b { s with told := w } f kD := by
  have hnr := h.nr
  simp only [Fp.all, List.mem_cons, List.not_mem_nil, or_false, not_or] at hnr
  exact ⟨get_set h.ins (Ne.symm hnr.2.2.2.1), get_set h.now (ne_of_get h.told h.now (by simp)), get_set h.stand (Ne.symm h.n2), get_set h.brok (ne_of_get h.told h.brok (by simp)), get_self h.told, get_set h.bad h.n4, h.n1, h.n2, h.n3, h.n4⟩
theorem RunAt.setBad (h : RunAt st r b s f kD) (w : List Str) : RunAt (st.set f.bad (.lst (w.map .str))) r b { s with bad := w } f kD := by
  have hnr := h.nr
  simp only [Fp.all, List.mem_cons, List.not_mem_nil, or_false, not_or] at hnr
  exact ⟨get_set h.ins (Ne.symm hnr.2.2.2.2), get_set h.now (ne_of_get h.bad h.now (by simp)), get_set h.stand (Ne.symm h.n3), get_set h.brok (ne_of_get h.bad h.brok (by simp)), get_set h.told (Ne.symm h.n4), get_self h.bad, h.n1, h.n2, h.n3, h.n4⟩
/-- a new list of those that stand -/
theorem RunAt.newStand (h : RunAt st r b s f kD) (w : List (Str × Str)) : RunAt ((st ++ [MO.lst (w.map pairD)]).set r (.ins "Runner" (insF b { s with stand := w } { f with stand := st.length } kD))) r b { s with stand := w } { f with stand := st.length } kD := by
  have hl := h.lt
  have hp := h.push [.lst (w.map pairD)]
  have hnr := hp.nr
  simp only [Fp.all, List.mem_cons, List.not_mem_nil, or_false, not_or] at hnr hl
  have hnew : (st ++ [MO.lst (w.map pairD)])[st.length]? = some (.lst (w.map pairD)) := by simp
  have hrl := lt_of h.ins
  refine ⟨get_self hp.ins, get_set hp.now hnr.1, get_set hnew (Nat.ne_of_lt hrl), get_set hp.brok hnr.2.2.1, get_set hp.told hnr.2.2.2.1, get_set hp.bad hnr.2.2.2.2, h.n1, ?_, ?_, h.n4⟩
  · have := hl f.told (by simp); show st.length ≠ f.told; omega
  · have := hl f.bad (by simp); show st.length ≠ f.bad; omega
/-- another world -/
theorem RunAt.newNow (h : RunAt st r b s f kD) {k : Nat} {w : Wd} (hk : st[k]? = some (.dct (wD w))) (hne : k ≠ f.brok) : RunAt (st.set r (.ins "Runner" (insF b { s with now := w } { f with now := k } kD))) r b { s with now := w } { f with now := k } kD := by
  have hnr := h.nr
  simp only [Fp.all, List.mem_cons, List.not_mem_nil, or_false, not_or] at hnr
  exact ⟨get_self h.ins, get_set hk (ne_of_get h.ins hk (by simp)), get_set h.stand hnr.2.1, get_set h.brok hnr.2.2.1, get_set h.told hnr.2.2.2.1, get_set h.bad hnr.2.2.2.2, hne, h.n2, h.n3, h.n4⟩
end
/-! ### leaving a def -/
def dropB (st st1 : Sto) : Prop := st1.take st.length = st ∨ ∀ o ∈ st1.take st.length, o.rlt st.length = true
theorem fnQ_pick {st st1 : Sto} {P : D → Sto → Prop} {E : Str → Sto → Prop} {d : D} (hd : ∀ i, d ≠ .ref i) (h : P d st1) (h2 : dropB st st1 → P d (st1.take st.length)) : fnQ st P E (.rt d) st1 := by
  show wp _ _ _ _
  have e : frz st.length st1 d = d := by
    unfold frz
    split
    · exact absurd rfl (hd _)
    · rfl
  unfold wp dropM
  dsimp only
  rw [e]
  by_cases hh : DropOk st st1 d
  · rw [if_pos hh]; exact h2 hh.2
  · rw [if_neg hh]; exact h
theorem fnQ_pickN {st st1 : Sto} {P : D → Sto → Prop} {E : Str → Sto → Prop} {ρ : Lo} (h : P .non st1) (h2 : dropB st st1 → P .non (st1.take st.length)) : fnQ st P E (.nx ρ) st1 := by
  have : fnQ st P E (.nx ρ) st1 = fnQ st P E (.rt .non) st1 := rfl
  rw [this]
  exact fnQ_pick (fun i e => by cases e) h h2
theorem RunAt.small {st st1 : Sto} {r : Nat} {b b' : Book} {s s' : RSt} {f f' : Fp} {kD kD' : D} (h0 : RunAt st r b' s' f' kD') (h : RunAt st1 r b s f kD) (hd : dropB st st1) : ∀ i ∈ f.all, i < st.length := by
  have hr := lt_of h0.ins
  rcases hd with hd | hd
  · have e : (st1.take st.length)[r]? = some (.ins "Runner" (insF b s f kD)) := by rw [List.getElem?_take_of_lt hr]; exact h.ins
    rw [hd, h0.ins] at e
    have e2 : insF b' s' f' kD' = insF b s f kD := by injection e with e; injection e
    unfold insF at e2
    simp only [List.cons.injEq, Prod.mk.injEq, true_and, D.ref.injEq, and_true] at e2
    have hl := h0.lt
    simp only [Fp.all, List.mem_cons, List.not_mem_nil, or_false] at hl ⊢
    rintro i (rfl | rfl | rfl | rfl | rfl)
    · rw [← e2.2.2.2.1]; exact hl _ (.inl rfl)
    · rw [← e2.2.2.2.2.1]; exact hl _ (.inr (.inl rfl))
    · rw [← e2.2.2.2.2.2.1]; exact hl _ (.inr (.inr (.inl rfl)))
    · rw [← e2.2.2.2.2.2.2.1]; exact hl _ (.inr (.inr (.inr (.inl rfl))))
    · rw [← e2.2.2.2.2.2.2.2.1]; exact hl _ (.inr (.inr (.inr (.inr rfl))))
  · have e : (st1.take st.length)[r]? = some (.ins "Runner" (insF b s f kD)) := by rw [List.getElem?_take_of_lt hr]; exact h.ins
    have := hd _ (List.mem_of_getElem? e)
    simp only [MO.rlt, insF, List.map_cons, List.map_nil, D.rlts, D.rlt, Bool.and_eq_true, decide_eq_true_eq] at this
    simp only [Fp.all, List.mem_cons, List.not_mem_nil, or_false]
    rintro i (rfl | rfl | rfl | rfl | rfl)
    · exact this.2.2.2.1
    · exact this.2.2.2.2.1
    · exact this.2.2.2.2.2.1
    · exact this.2.2.2.2.2.2.1
    · exact this.2.2.2.2.2.2.2.1
theorem Mid.take {st0 : Sto} {X : List Nat} {st st1 : Sto} {r : Nat} {b b' : Book} {s s' : RSt} {f f' : Fp} {kD kD' : D} (M0 : Mid st0 X st r b' s' f' kD') (M : Mid st0 X st1 r b s f kD) (hd : dropB st st1) : Mid st0 X (st1.take st.length) r b s f kD :=
  ⟨M.at_.take (lt_of M0.at_.ins) (M0.at_.small M.at_ hd), M.fr.take M0.fr.len, M.r, M.own⟩
end TB
set_option Elab.async false
set_option linter.all false
set_option maxRecDepth 100000
set_option maxHeartbeats 4000000
/-! TB32: the methods of a runner: looks, take_down, clear -/
namespace TB
open PySem PySem.Spec L2
structure RunT (T : Tab) (gc : Str → Option D) : Prop extends NeedT T gc where
  group_of : T.get "group_of" = some k_p_group_of
  done : T.get "done" = some k_p_done
  all_done : T.get "all_done" = some k_p_all_done
  init : T.get "Runner.__init__" = some k_p_Runner_init
  left : T.get "Runner.left" = some k_p_Runner_left
  rows : T.get "Runner.rows" = some k_p_Runner_rows
  live : T.get "Runner.live" = some k_p_Runner_live
  world : T.get "Runner.world" = some k_p_Runner_world
  spoilt : T.get "Runner.spoilt" = some k_p_Runner_spoilt
  take_down : T.get "Runner.take_down" = some k_p_Runner_take_down
  set_up : T.get "Runner.set_up" = some k_p_Runner_set_up
  up : T.get "Runner.up" = some k_p_Runner_up
  clear : T.get "Runner.clear" = some k_p_Runner_clear
  leave_group : T.get "Runner.leave_group" = some k_p_Runner_leave_group
  step : T.get "Runner.step" = some k_p_Runner_step
  end_ : T.get "Runner.end" = some k_p_Runner_end
section
variable {st : Sto} {r : Nat} {b : Book} {s : RSt} {f : Fp} {kD : D}
theorem RunAt.f_book (h : RunAt st r b s f kD) : fldT "Runner" "book" st (.ref r) = some b.d := by rw [fld_ins h.ins]; rfl
theorem RunAt.f_rest (h : RunAt st r b s f kD) : fldT "Runner" "rest" st (.ref r) = some (sD s.rest) := by rw [fld_ins h.ins]; rfl
theorem RunAt.f_share (h : RunAt st r b s f kD) : fldT "Runner" "is_sharing" st (.ref r) = some (.bl s.share) := by rw [fld_ins h.ins]; rfl
theorem RunAt.f_now (h : RunAt st r b s f kD) : fldT "Runner" "now" st (.ref r) = some (.ref f.now) := by rw [fld_ins h.ins]; rfl
theorem RunAt.f_stand (h : RunAt st r b s f kD) : fldT "Runner" "standing" st (.ref r) = some (.ref f.stand) := by rw [fld_ins h.ins]; rfl
theorem RunAt.f_brok (h : RunAt st r b s f kD) : fldT "Runner" "broken" st (.ref r) = some (.ref f.brok) := by rw [fld_ins h.ins]; rfl
theorem RunAt.f_told (h : RunAt st r b s f kD) : fldT "Runner" "told" st (.ref r) = some (.ref f.told) := by rw [fld_ins h.ins]; rfl
theorem RunAt.f_bad (h : RunAt st r b s f kD) : fldT "Runner" "bad_downs" st (.ref r) = some (.ref f.bad) := by rw [fld_ins h.ins]; rfl
theorem RunAt.f_kept (h : RunAt st r b s f kD) : fldT "Runner" "kept" st (.ref r) = some kD := by rw [fld_ins h.ins]; rfl
theorem RunAt.f_over (h : RunAt st r b s f kD) : fldT "Runner" "is_over" st (.ref r) = some (.bl s.over) := by rw [fld_ins h.ins]; rfl
theorem RunAt.m_ok (h : RunAt st r b s f kD) {m : Str} (hm : (insF b s f kD).lookup m = none) : insOk "Runner" m st (.ref r) = true := insOk_ins h.ins hm
theorem srcQ_lst {i : Nat} {l : List D} (h : st[i]? = some (.lst l)) : srcQ st (.ref i) = some ⟨l, some (i, .lst l)⟩ := by simp [srcQ, h]
end
section
variable {T : Tab} {gc : Str → Option D} {n : Nat} {st : Sto} {r : Nat} {b : Book} {s : RSt} {f : Fp} {kD : D}
theorem left_at (R : RunT T gc) (hn : 0 < n) (h : RunAt st r b s f kD) (P : D → Sto → Prop) (E : Str → Sto → Prop) : wp (cfN T gc n "Runner.left" [.ref r]) st P E = P (sD s.rest) st := by
  refine wp_det ?_ P E
  obtain ⟨n, rfl⟩ : ∃ k, n = k + 1 := ⟨n - 1, by omega⟩
  rw [w_fn R.left]
  simp [k_p_Runner_left, h.f_rest]
  rw [fnQ_rt rfl (fun i e => by cases e)]
  exact ⟨rfl, rfl⟩
theorem w_tuple_ref {i : Nat} {l : List D} (h : st[i]? = some (.lst l)) (P : D → Sto → Prop) (E : Str → Sto → Prop) : wp (gTuple [.ref i]) st P E = (l.length ≤ sizeLine ∧ P (.tup l) st) := by
  have e : gTuple [.ref i] st = mkT l st := by simp [gTuple, lstOf, h]
  unfold wp
  rw [e]
  exact wp_mkT l
theorem rows_at (R : RunT T gc) (hn : 0 < n) (h : RunAt st r b s f kD) (hl : s.told.length ≤ 1000000) (P : D → Sto → Prop) (E : Str → Sto → Prop) : wp (cfN T gc n "Runner.rows" [.ref r]) st P E = P (.tup (s.told.map RowT.d)) st := by
  refine wp_det ?_ P E
  obtain ⟨n, rfl⟩ : ∃ k, n = k + 1 := ⟨n - 1, by omega⟩
  rw [w_fn R.rows]
  simp [k_p_Runner_rows, h.f_told]
  rw [w_tuple_ref h.told, fnQ_rt rfl (fun i e => by cases e)]
  exact ⟨by simp; omega, rfl, rfl⟩
theorem spoilt_at (R : RunT T gc) (hn : 0 < n) (h : RunAt st r b s f kD) (hl : s.bad.length ≤ 10000000) (P : D → Sto → Prop) (E : Str → Sto → Prop) : wp (cfN T gc n "Runner.spoilt" [.ref r]) st P E = P (sD s.bad) st := by
  refine wp_det ?_ P E
  obtain ⟨n, rfl⟩ : ∃ k, n = k + 1 := ⟨n - 1, by omega⟩
  rw [w_fn R.spoilt]
  simp [k_p_Runner_spoilt, h.f_bad]
  rw [w_tuple_ref h.bad, fnQ_rt rfl (fun i e => by cases e)]
  exact ⟨by simp; omega, rfl, rfl⟩
section
variable {α : Type} {src : Src} {t : Tg} {own : List Nat} {tc : Lo → M Bool} {me : Lo → M D} {ρ : Lo} {E : Str → Sto → Prop}
theorem lcmT (f : α → D) (ρ1 : α → Lo) (c : α → Bool) (g : α → D) (hs : src.ok st) : ∀ (l : List α) (P : List D → Sto → Prop), (∀ x ∈ l, bindT t (f x) (wipeD ρ own) = some (ρ1 x)) → (∀ x ∈ l, ∀ P, wp (tc (ρ1 x)) st P noX = P (c x) st) → (∀ x ∈ l, c x = true → ∀ P, wp (me (ρ1 x)) st P noX = P (g x) st) →
    wp (lcG src t own tc me ρ (l.map f)) st P E = P ((l.filter c).map g) st
  | [], P, hb, hc, hm => lc_nil hs
  | x :: l, P, hb, hc, hm => by
    rw [List.map_cons, lc_cons _ _ hs, hb x List.mem_cons_self, lk_some, hc x List.mem_cons_self]
    have ih := fun P => lcmT f ρ1 c g hs l P (fun e h => hb e (List.mem_cons_of_mem _ h)) (fun e h => hc e (List.mem_cons_of_mem _ h)) (fun e h => hm e (List.mem_cons_of_mem _ h))
    by_cases h : c x = true
    · rw [if_pos h, hm x List.mem_cons_self h, ih, List.filter_cons_of_pos h, List.map_cons]
    · rw [if_neg h, ih, List.filter_cons_of_neg h]
end
theorem src_ok {i : Nat} {o : MO} {l : List D} (h : st[i]? = some o) : Src.ok ⟨l, some (i, o)⟩ st := h
theorem live_at (R : RunT T gc) (hn : 0 < n) (h : RunAt st r b s f kD) (hl : s.stand.length ≤ 10000000) (P : D → Sto → Prop) (E : Str → Sto → Prop) : wp (cfN T gc n "Runner.live" [.ref r]) st P E = P (sD (s.stand.map (·.1))) st := by
  refine wp_det ?_ P E
  obtain ⟨n, rfl⟩ : ∃ k, n = k + 1 := ⟨n - 1, by omega⟩
  rw [w_fn R.live]
  simp [k_p_Runner_live, h.f_stand, srcQ_lst h.stand]
  rw [lcmT pairD (fun p => [some (.ref r), some (.str p.1), some (.str p.2)]) (fun _ => true) (fun p => .str p.1) (src_ok h.stand) s.stand]
  · rw [filt_true]
    simp
    rw [fnQ_rt rfl (fun i e => by cases e)]
    refine ⟨by omega, ?_, rfl⟩
    rw [sD, List.map_map]; rfl
  · intro x hx
    rfl
  · intro x hx P
    exact wc_none
  · intro x hx _ P
    simp
/-- the keys, rising -/
def sortK (ks : List Str) : List Str := ks.mergeSort fun a b => decide (a.cps.toList ≤ b.cps.toList)
theorem sortK_D (ks : List Str) : (ks.map D.str).mergeSort dle = (sortK ks).map D.str := (PySem.W.sort_maps (s := dle) D.str (fun a _ b _ => (dle_str a b).symm)).symm
theorem sortK_mem {ks : List Str} {x : Str} : x ∈ sortK ks ↔ x ∈ ks := (List.mergeSort_perm ks _).mem_iff
theorem sortK_len (ks : List Str) : (sortK ks).length = ks.length := (List.mergeSort_perm ks _).length_eq
def worldM (w : Wd) : List (Str × Int) := ((sortK (w.map (·.1))).filter fun k => !decide (wget w k = 0)).map fun k => (k, wget w k)
def nnD (p : Str × Int) : D := .tup [.str p.1, .int p.2]
theorem strsOf_wD : ∀ w : Wd, strsOf (wD w) = some (w.map (·.1))
  | [] => rfl
  | p :: w => by
    show (strsOf (wD w)).map (p.1 :: ·) = _
    rw [strsOf_wD w]; rfl
theorem valG_mem {w : Wd} {k : Str} (h : k ∈ w.map (·.1)) : valG w k = some (wget w k) := by
  unfold wget
  cases hv : valG w k with
  | some v => rfl
  | none =>
    exfalso
    unfold valG at hv
    rw [Option.map_eq_none_iff, List.find?_eq_none] at hv
    obtain ⟨p, hp, rfl⟩ := List.mem_map.mp h
    exact hv p hp (by simp)
theorem w_sorted {m : Bool} {i : Nat} {w : Wd} (h : st[i]? = some (.dct (wD w))) (hl : w.length < 64) (P : D → Sto → Prop) (E : Str → Sto → Prop) : wp (gSorted m [.ref i]) st P E = wp (mkL m ((sortK (w.map (·.1))).map D.str)) st P E := by
  have e : gSorted m [.ref i] st = mkL m ((sortK (w.map (·.1))).map D.str) st := by
    simp only [gSorted, h, strsOf_wD, List.length_map, hl, if_true, sortK_D]
  unfold wp
  rw [e]
theorem world_at (R : RunT T gc) (hn : 0 < n) (h : RunAt st r b s f kD) (hl : s.now.length < 64) (P : D → Sto → Prop) (E : Str → Sto → Prop) : wp (cfN T gc n "Runner.world" [.ref r]) st P E = P (.tup ((worldM s.now).map nnD)) st := by
  refine wp_det ?_ P E
  obtain ⟨n, rfl⟩ : ∃ k, n = k + 1 := ⟨n - 1, by omega⟩
  rw [w_fn R.world]
  simp [k_p_Runner_world, h.f_now]
  rw [w_sorted h.now hl]
  have hk : (sortK (s.now.map (·.1))).length < 64 := by rw [sortK_len]; simpa using hl
  simp [srcQ, q_bt_one]
  refine ⟨by omega, ?_⟩
  rw [lcm D.str (fun k => !decide (wget s.now k = 0)) (fun k => nnD (k, wget s.now k)) (by trivial)]
  · simp
    have h2 : ((sortK (s.now.map (·.1))).filter fun k => !decide (wget s.now k = 0)).length ≤ (sortK (s.now.map (·.1))).length := List.length_filter_le _ _
    refine ⟨by simp at h2 hk ⊢; omega, ?_⟩
    rw [fnQ_rt rfl (fun i e => by cases e)]
    refine ⟨?_, rfl⟩
    unfold worldM
    rw [List.map_map]; rfl
  · intro x hx P
    have hx2 : x ∈ s.now.map (·.1) := sortK_mem.mp hx
    simp [wipeD, h.f_now, ix_dct h.now, wD_val, valG_mem hx2]
  · intro x hx _ P
    have hx2 : x ∈ s.now.map (·.1) := sortK_mem.mp hx
    simp [wipeD, h.f_now, ix_dct h.now, wD_val, valG_mem hx2, nnD]
end
end TB
set_option Elab.async false
set_option linter.all false
set_option maxRecDepth 100000
set_option maxHeartbeats 4000000
/-! TB33: take_down, clear -/
namespace TB
open PySem PySem.Spec L2
theorem ixs3 {st : Sto} (s : Stage) : idxT st s.d (.int 3) = some (dsD s.ups) := by simp [Stage.d, at3]
theorem ixs4 {st : Sto} (s : Stage) : idxT st s.d (.int 4) = some (dsD s.downs) := by simp [Stage.d, at4]
theorem stg_of {b : Book} (hb : b.stOk) {x : Str} (hx : x ∈ b.names) : ∃ sg ∈ b.stages, sg.name = x ∧ b.downs x = sg.downs ∧ b.ups x = sg.ups ∧ b.reachOf x = sg.reach ∧ wantsOf b.stages x = sg.wants := by
  obtain ⟨sg, hs, rfl⟩ := List.mem_map.mp hx
  have e : b.stages.find? (fun s => decide (s.name = sg.name)) = some sg := by
    have h := filter_key Stage.name hb.nd hs
    rw [← List.head?_filter, h]; rfl
  refine ⟨sg, hs, rfl, ?_, ?_, ?_, ?_⟩
  · unfold Book.downs; rw [e]; rfl
  · unfold Book.ups; rw [e]; rfl
  · unfold Book.reachOf; rw [e]; rfl
  · unfold wantsOf; rw [e]; rfl
theorem nodup_len {α : Type} [DecidableEq α] : ∀ {l m : List α}, l.Nodup → (∀ x ∈ l, x ∈ m) → l.length ≤ m.length
  | [], m, _, _ => Nat.zero_le _
  | a :: l, m, h, hs => by
    have hn := List.nodup_cons.mp h
    have ha := hs a List.mem_cons_self
    have ih := nodup_len (l := l) (m := m.erase a) hn.2 (fun x hx => (List.mem_erase_of_ne (show x ≠ a from fun z => hn.1 (by rw [← z]; exact hx))).mpr (hs x (List.mem_cons_of_mem _ hx)))
    rw [List.length_erase_of_mem ha] at ih
    have := List.length_pos_of_mem ha
    simp only [List.length_cons]
    omega
theorem okW.len {KS : List Str} {w : Wd} (h : okW KS w) (hk : KS.length < 64) : w.length < 64 := by
  have h1 : (w.map (·.1)).length ≤ KS.length := nodup_len h.nd (fun x hx => by
    obtain ⟨p, hp, rfl⟩ := List.mem_map.mp hx
    exact h.key p hp)
  rw [List.length_map] at h1
  omega
theorem put_keys {κ τ : Type} [DecidableEq κ] (w : List (κ × τ)) (k : κ) (v : τ) : (putG w k v).map (·.1) = if k ∈ w.map (·.1) then w.map (·.1) else w.map (·.1) ++ [k] := by
  unfold putG
  have e : ((w.any fun kv => decide (kv.1 = k)) = true) = (k ∈ w.map (·.1)) := by
    rw [List.any_eq_true]
    simp
  by_cases h : (w.any fun kv => decide (kv.1 = k)) = true
  · rw [if_pos h, if_pos (e ▸ h), List.map_map]
    congr 1
    funext p
    by_cases hp : p.1 = k <;> simp [hp]
  · rw [if_neg h, if_neg (fun z => h (e ▸ z)), List.map_append]; rfl
theorem okW.put {KS : List Str} {w : Wd} (h : okW KS w) {k : Str} (hk : k ∈ KS) (v : Int) : okW KS (putG w k v) := by
  have hm := put_keys w k v
  refine ⟨fun p hp => ?_, ?_⟩
  · have : p.1 ∈ (putG w k v).map (·.1) := List.mem_map_of_mem hp
    rw [hm] at this
    split at this
    · obtain ⟨q, hq, e⟩ := List.mem_map.mp this
      rw [← e]; exact h.key q hq
    · rcases List.mem_append.mp this with z | z
      · obtain ⟨q, hq, e⟩ := List.mem_map.mp z
        rw [← e]; exact h.key q hq
      · simp at z; rw [z]; exact hk
  · rw [hm]
    split
    · exact h.nd
    · rename_i hn
      rw [List.nodup_append]
      exact ⟨h.nd, by simp, fun a ha b hb => by simp at hb; subst hb; rintro rfl; exact hn ha⟩
theorem okW.deed {KS : List Str} {w : Wd} (h : okW KS w) (sd : List Str) {d : Deed} (hd : d.keyIn KS) : okW KS (doDeed w sd d).1 := by
  cases d with
  | set k n => exact h.put hd n
  | add k n => exact h.put hd _
  | ask k n => exact h
  | say x => exact h
  | fail => exact h
  | leave => exact h
theorem okW.all {KS : List Str} : ∀ {ds : List Deed} {w : Wd} {sd : List Str} {i : Nat}, okW KS w → (∀ d ∈ ds, d.keyIn KS) → okW KS (doAll w sd i ds).1
  | [], w, sd, i, h, _ => h
  | d :: ds, w, sd, i, h, hd => by
    have h1 := h.deed sd (hd d List.mem_cons_self)
    unfold doAll
    rcases e : doDeed w sd d with ⟨w1, sd1, o⟩
    rw [e] at h1
    cases o with
    | some x => exact h1
    | none => exact okW.all h1 fun x hx => hd x (List.mem_cons_of_mem _ hx)
theorem doAll_word : ∀ (ds : List Deed) (w : Wd) (sd : List Str) (i : Nat), (doAll w sd i ds).2.2.1 = "good" ∨ (doAll w sd i ds).2.2.1 = "bad" ∨ (doAll w sd i ds).2.2.1 = "left"
  | [], w, sd, i => .inl rfl
  | d :: ds, w, sd, i => by
    unfold doAll
    rcases e : doDeed w sd d with ⟨w1, sd1, o⟩
    cases o with
    | none => exact doAll_word ds w1 sd1 (i + 1)
    | some x =>
      dsimp only
      cases d <;> simp [doDeed] at e
      · obtain ⟨_, _, e⟩ := e; exact .inr (.inl e.2.symm)
      · obtain ⟨_, _, e⟩ := e; exact .inr (.inl e.symm)
      · obtain ⟨_, _, e⟩ := e; exact .inr (.inr e.symm)
theorem stand_few {b : Book} (hb : b.stOk) {KS : List Str} {c : Nat} {s : RSt} (h : s.ok b KS c) : s.stand.length ≤ 12 := by
  have h1 : (s.stand.map (·.1)).length ≤ b.names.length := nodup_len h.sn (fun x hx => by
    obtain ⟨p, hp, rfl⟩ := List.mem_map.mp hx
    exact h.st p hp)
  have h2 : b.names.length ≤ 12 := by unfold Book.names; rw [List.length_map]; exact hb.few
  rw [List.length_map] at h1
  omega
theorem takeDown_ok {b : Book} {KS : List Str} (hb : b.run KS) {c : Nat} {s : RSt} (h : s.ok b KS c) {x : Str} (hx : x ∈ b.names) (said : List Str) : (takeDown b s said x).1.ok b KS (c + 1) := by
  obtain ⟨sg, hs, _, e, _⟩ := stg_of hb.st hx
  refine ⟨?_, fun p hp => h.st p (List.mem_filter.mp hp).1, ?_, h.br, h.bn, h.rest, by have := h.told; show s.told.length ≤ _; omega, ?_⟩
  · refine okW.all h.now ?_
    rw [e]; exact (hb.ud sg hs).2.key
  · exact h.sn.sublist (List.Sublist.map _ List.filter_sublist)
  · show (if _ then _ else _ : List Str).length ≤ _
    have := h.bad
    split
    · omega
    · simp; omega
theorem takeDown_said {b : Book} {KS : List Str} (hb : b.run KS) {s : RSt} {x : Str} (hx : x ∈ b.names) (said : List Str) : (takeDown b s said x).2.length ≤ said.length + 30 := by
  obtain ⟨sg, hs, _, e, _⟩ := stg_of hb.st hx
  have := (doAll_len (b.downs x) s.now said 0).2
  have h2 := (hb.ud sg hs).2.few
  rw [← e] at h2
  show (doAll s.now said 0 (b.downs x)).2.1.length ≤ _
  omega
section
variable {T : Tab} {gc : Str → Option D} {n : Nat} {st st0 : Sto} {X : List Nat} {r : Nat} {b : Book} {s : RSt} {f : Fp} {kD : D} {KS : List Str}
/-- the list of what is said, apart from the runner -/
structure SaidAt (st0 : Sto) (X : List Nat) (st : Sto) (f : Fp) (sd : Nat) (said : List Str) : Prop where
  at_ : st[sd]? = some (.lst (said.map .str))
  own : Own st0 X sd
  ne : sd ∉ f.all
theorem take_down_at (R : RunT T gc) (hn : 4 < n) (hb : b.run KS) {c : Nat} (hs : s.ok b KS c) (hc : c ≤ 100000) (M : Mid st0 X st r b s f kD) {sd : Nat} {said : List Str} (S : SaidAt st0 X st f sd said) (hl : said.length ≤ 1000000) {x : Str} (hx : x ∈ b.names) :
    wp (cfN T gc n "Runner.take_down" [.ref r, .str x, .ref sd]) st (fun d st1 => d = .non ∧ ∃ f1, Mid st0 X st1 r b (takeDown b s said x).1 f1 kD ∧ SaidAt st0 X st1 f1 sd (takeDown b s said x).2) noX := by
  obtain ⟨n, rfl⟩ : ∃ k, n = k + 1 := ⟨n - 1, by omega⟩
  obtain ⟨sg, hsg, hname, e1, e2, e3, e4⟩ := stg_of hb.st hx
  have h := M.at_
  have hfew := stand_few hb.st hs
  rw [w_fn R.take_down]
  simp [k_p_Runner_take_down, h.f_stand, srcQ_lst h.stand]
  rw [lcm pairD (fun p => !decide (p.1 = x)) pairD (src_ok h.stand) s.stand]
  rotate_left
  · intro p hp P
    simp [wipeD, pairD]
  · intro p hp _ P
    simp [wipeD]
  simp
  have hfl : (s.stand.filter fun p => !decide (p.1 = x)).length ≤ s.stand.length := List.length_filter_le _ _
  refine ⟨by omega, ?_⟩
  have hins : (st ++ [MO.lst ((s.stand.filter fun p => !decide (p.1 = x)).map pairD)])[r]? = some (.ins "Runner" (insF b s f kD)) := get_push h.ins _
  rw [w_fput hins (by simp [insF])]
  have h1 := h.newStand (s.stand.filter fun p => !decide (p.1 = x))
  have F1 : Fr st0 X ((st ++ [MO.lst ((s.stand.filter fun p => !decide (p.1 = x)).map pairD)]).set r (.ins "Runner" (insF b { s with stand := s.stand.filter fun p => !decide (p.1 = x) } { f with stand := st.length } kD))) := (M.fr.push _).set M.r _
  have S1 : ((st ++ [MO.lst ((s.stand.filter fun p => !decide (p.1 = x)).map pairD)]).set r (.ins "Runner" (insF b { s with stand := s.stand.filter fun p => !decide (p.1 = x) } { f with stand := st.length } kD)))[sd]? = some (.lst (said.map .str)) :=
    get_set (get_push S.at_ _) (Ne.symm (h.ne_lst S.at_).1)
  have ef : fputG "standing" (.ref st.length) (insF b s f kD) = insF b { s with stand := s.stand.filter fun p => !decide (p.1 = x) } { f with stand := st.length } kD := rfl
  rw [ef]
  generalize hst1 : (st ++ [MO.lst ((s.stand.filter fun p => !decide (p.1 = x)).map pairD)]).set r (.ins "Runner" (insF b { s with stand := s.stand.filter fun p => !decide (p.1 = x) } { f with stand := st.length } kD)) = st1 at h1 F1 S1
  have own1 : ∀ i ∈ ({ f with stand := st.length } : Fp).all, Own st0 X i := by
    intro i hi
    have ho := M.own
    simp only [Fp.all, List.mem_cons, List.not_mem_nil, or_false] at hi ho
    rcases hi with rfl | rfl | rfl | rfl | rfl
    · exact ho _ (.inl rfl)
    · exact .inr M.fr.len
    · exact ho _ (.inr (.inr (.inl rfl)))
    · exact ho _ (.inr (.inr (.inr (.inl rfl))))
    · exact ho _ (.inr (.inr (.inr (.inr rfl))))
  have nsd : sd ∉ ({ f with stand := st.length } : Fp).all := by
    have := S.ne
    have hlt := lt_of S.at_
    simp only [Fp.all, List.mem_cons, List.not_mem_nil, or_false, not_or] at this ⊢
    exact ⟨this.1, by omega, this.2.2⟩
  have hnow := hs.now.len hb.ks
  have hds : (b.downs x).length ≤ 30 := by rw [e1]; exact (hb.ud sg hsg).2.few
  simp [h1.f_now, h1.f_book]
  rw [← hname, stage_at_at R.stage_at (by omega) hb.st hsg, ixs4, lk_some, ← e1, hname]
  rw [all_done_at R.done R.all_done (by omega) h1.now S1 (b.downs x) (by show List.length s.now + _ < _; omega) (by omega)]
  have hne : f.now ≠ sd := fun z => S.ne (by simp [Fp.all, z])
  have hwl := lt_of h1.now
  have hsl := lt_of S1
  -- behind the downs
  have h2 : RunAt (stW st1 f.now (doAll s.now said 0 (b.downs x)).1 sd (doAll s.now said 0 (b.downs x)).2.1) r b { s with now := (doAll s.now said 0 (b.downs x)).1, stand := s.stand.filter fun p => !decide (p.1 = x) } { f with stand := st.length } kD := by
    have := (h1.setNow (doAll s.now said 0 (b.downs x)).1).other (j := sd) (.lst ((doAll s.now said 0 (b.downs x)).2.1.map .str)) (h1.ne_lst S1).1 nsd
    exact this
  have F2 : Fr st0 X (stW st1 f.now (doAll s.now said 0 (b.downs x)).1 sd (doAll s.now said 0 (b.downs x)).2.1) := (F1.set (own1 _ (by simp [Fp.all])) _).set S.own _
  have S2 : (stW st1 f.now (doAll s.now said 0 (b.downs x)).1 sd (doAll s.now said 0 (b.downs x)).2.1)[sd]? = some (.lst ((doAll s.now said 0 (b.downs x)).2.1.map .str)) := stW_s hsl
  generalize hst2 : stW st1 f.now (doAll s.now said 0 (b.downs x)).1 sd (doAll s.now said 0 (b.downs x)).2.1 = st2 at h2 F2 S2
  simp [whD]
  by_cases hg : (doAll s.now said 0 (b.downs x)).2.2.1 = "good"
  · rw [if_pos hg]
    have etd : takeDown b s said x = ({ s with now := (doAll s.now said 0 (b.downs x)).1, stand := s.stand.filter fun p => !decide (p.1 = x) }, (doAll s.now said 0 (b.downs x)).2.1) := by
      unfold takeDown; rw [if_pos hg]
    rw [etd]
    have M2 : Mid st0 X st2 r b { s with now := (doAll s.now said 0 (b.downs x)).1, stand := s.stand.filter fun p => !decide (p.1 = x) } { f with stand := st.length } kD := ⟨h2, F2, M.r, own1⟩
    refine fnQ_pickN ⟨rfl, _, M2, S2, S.own, nsd⟩ fun hd => ⟨rfl, _, M.take M2 hd, ?_, S.own, nsd⟩
    rw [List.getElem?_take_of_lt (lt_of S.at_)]; exact S2
  · rw [if_neg hg]
    simp [h2.f_bad, bt_lst' h2.bad]
    rw [lst_app h2.bad (by have := hs.bad; simp; omega)]
    have h3 := h2.setBad (s.bad ++ [x])
    have F3 : Fr st0 X (st2.set f.bad (.lst ((s.bad ++ [x]).map .str))) := F2.set (own1 _ (by simp [Fp.all])) _
    have S3 : (st2.set f.bad (.lst ((s.bad ++ [x]).map .str)))[sd]? = some (.lst ((doAll s.now said 0 (b.downs x)).2.1.map .str)) := get_set S2 (fun z => nsd (by simp [Fp.all, ← z]))
    have etd : takeDown b s said x = ({ s with now := (doAll s.now said 0 (b.downs x)).1, stand := s.stand.filter fun p => !decide (p.1 = x), bad := s.bad ++ [x] }, (doAll s.now said 0 (b.downs x)).2.1) := by
      unfold takeDown; rw [if_neg hg]
    have em : (s.bad.map D.str ++ [D.str x]) = (s.bad ++ [x]).map .str := by simp
    rw [etd, em]
    have M3 : Mid st0 X (st2.set f.bad (.lst ((s.bad ++ [x]).map .str))) r b { s with now := (doAll s.now said 0 (b.downs x)).1, stand := s.stand.filter fun p => !decide (p.1 = x), bad := s.bad ++ [x] } { f with stand := st.length } kD := ⟨h3, F3, M.r, own1⟩
    refine fnQ_pickN ⟨rfl, _, M3, S3, S.own, nsd⟩ fun hd => ⟨rfl, _, M.take M3 hd, ?_, S.own, nsd⟩
    rw [List.getElem?_take_of_lt (lt_of S.at_)]; exact S3
end
end TB
set_option Elab.async false
set_option linter.all false
set_option maxRecDepth 100000
set_option maxHeartbeats 4000000
/-! TB34: clear, leave_group -/
namespace TB
open PySem PySem.Spec L2
theorem eqT_oS {st : Sto} (m : Str) (g : Option Str) : eqT st (.str m) (oS g) = some (decide (some m = g)) := by
  cases g with
  | none => simp [oS, eqT, pyT, D.py, PyData.depth, PyData.eqv]
  | some x => simp [oS]
theorem clearL_ok {b : Book} {KS : List Str} (hb : b.run KS) {far : Int} {g : Option Str} : ∀ {l : List (Str × Str)} {s : RSt} {said : List Str} {c : Nat}, s.ok b KS c → (∀ p ∈ l, p.1 ∈ b.names) → (clearL b far g l (s, said)).1.ok b KS (c + l.length) ∧ (clearL b far g l (s, said)).2.length ≤ said.length + 30 * l.length
  | [], s, said, c, h, _ => ⟨h, by simp [clearL]⟩
  | p :: l, s, said, c, h, hl => by
    unfold clearL
    by_cases hg : goes b far g p = true
    · rw [if_pos hg]
      have h1 := takeDown_ok hb h (hl p List.mem_cons_self) said
      have h2 := takeDown_said hb (s := s) (hl p List.mem_cons_self) said
      have ih := clearL_ok hb (far := far) (g := g) (said := (takeDown b s said p.1).2) h1 (fun q hq => hl q (List.mem_cons_of_mem _ hq))
      rw [List.length_cons]
      refine ⟨by have := ih.1; rw [show c + (l.length + 1) = c + 1 + l.length by omega]; exact this, by have h3 := ih.2; show (clearL b far g l ((takeDown b s said p.1).1, (takeDown b s said p.1).2)).2.length ≤ _; omega⟩
    · rw [if_neg hg]
      have ih := clearL_ok hb (far := far) (g := g) (said := said) h (fun q hq => hl q (List.mem_cons_of_mem _ hq))
      rw [List.length_cons]
      refine ⟨?_, by have := ih.2; omega⟩
      have q := ih.1
      exact ⟨q.now, q.st, q.sn, q.br, q.bn, q.rest, by have := q.told; omega, by have := q.bad; omega⟩
section
variable {T : Tab} {gc : Str → Option D} {n : Nat} {st0 : Sto} {X : List Nat} {r : Nat} {b : Book} {kD : D} {KS : List Str}
theorem clear_loop (R : RunT T gc) (hn : 5 < n) (hb : b.run KS) {far : Int} {g : Option Str} {sd : Nat} {src : Src} (hsrc : src.grd = none) (Q : Out → Sto → Prop) : ∀ (l : List (Str × Str)) (s : RSt) (said : List Str) (c : Nat) (st : Sto) (f : Fp) (x4 x5 x6 : Option D),
    s.ok b KS c → (∀ p ∈ l, p.1 ∈ b.names) → c + l.length ≤ 100000 → said.length + 30 * l.length ≤ 1000000 → Mid st0 X st r b s f kD → SaidAt st0 X st f sd said →
    (∀ x4 x5 x6 st1 f1, Mid st0 X st1 r b (clearL b far g l (s, said)).1 f1 kD → SaidAt st0 X st1 f1 sd (clearL b far g l (s, said)).2 → Q (.nx [some (.ref r), some (.int far), some (oS g), some (.ref sd), x4, x5, x6]) st1) →
    wpS (loopF src (.tup [4, 5]) (exSs (cfN T gc n) gc (.cons (.asg (.one 6) (.gix "WIDE" (.idx (.call "stage_at" 2 (.cons (.fld "Runner" "book" (.var 0)) (.cons (.var 4) .nil))) (.int 1))))
   (.cons (.ife (.band (.cons (.cmp .LtE (.var 6) (.var 1)) (.cons (.not (.band (.cons (.cmp .Eq (.var 6) (.int 1)) (.cons (.cmp .Eq (.var 5) (.var 2)) .nil)))) .nil)))
    (.cons (.expr (.meth "Runner" "take_down" "Runner.take_down" 3 (.var 0) (.cons (.var 4) (.cons (.var 3) .nil))))
    .nil)
    .nil)
   .nil))) (l.map pairD)) [some (.ref r), some (.int far), some (oS g), some (.ref sd), x4, x5, x6] st Q
  | [], s, said, c, st, f, x4, x5, x6, hs, hl, hc, hsl, M, S, q => by
    have hok : src.ok st := by unfold Src.ok; rw [hsrc]; trivial
    show wpS (loopF src _ _ []) _ _ _
    rw [loop_nil hok]
    exact q x4 x5 x6 st f M S
  | p :: l, s, said, c, st, f, x4, x5, x6, hs, hl, hc, hsl, M, S, q => by
    have hok : src.ok st := by unfold Src.ok; rw [hsrc]; trivial
    obtain ⟨sg, hsg, hname, e1, e2, e3, e4⟩ := stg_of hb.st (hl p List.mem_cons_self)
    obtain ⟨pre, os, _⟩ := hb.st.ok.mem hsg
    simp only [List.length_cons] at hc hsl
    rw [List.map_cons, loop_cons hok (ρ1 := [some (.ref r), some (.int far), some (oS g), some (.ref sd), some (.str p.1), some (.str p.2), x6]) rfl]
    have h := M.at_
    simp [h.f_book]
    rw [← hname, stage_at_at R.stage_at (by omega) hb.st hsg, ixs1, lk_some, hname]
    simp [R.wide _ os.reach]
    unfold clearL at q
    by_cases hg : goes b far g p = true
    · rw [if_pos hg] at q
      have h1 := takeDown_ok hb hs (hl p List.mem_cons_self) said
      have h2 := takeDown_said hb (s := s) (hl p List.mem_cons_self) said
      unfold goes at hg
      simp [e3] at hg
      rw [if_pos hg.1]
      have fin : ∀ (y4 y5 y6 : Option D) (st1 : Sto) (f1 : Fp), Mid st0 X st1 r b (takeDown b s said p.1).1 f1 kD → SaidAt st0 X st1 f1 sd (takeDown b s said p.1).2 → _ := fun y4 y5 y6 st1 f1 M1 S1 =>
        clear_loop R hn hb hsrc Q l (takeDown b s said p.1).1 (takeDown b s said p.1).2 (c + 1) st1 f1 y4 y5 y6 h1 (fun q hq => hl q (List.mem_cons_of_mem _ hq)) (by omega) (by omega) M1 S1 q
      by_cases c2 : farN sg.reach = 1
      · have c3 : ¬ some p.2 = g := by
          rcases hg.2 with z | z
          · exact absurd c2 z
          · exact z
        rw [if_pos c2, eqT_oS, lk_some, decide_eq_false c3, if_neg (by simp)]
        refine ⟨h.m_ok rfl, wp_go (take_down_at R (n := n) (by omega) hb hs (by omega) M S (by omega) (hl p List.mem_cons_self)) fun d st1 ⟨_, f1, M1, S1⟩ => fin _ _ _ st1 f1 M1 S1⟩
      · rw [if_neg c2]
        refine ⟨h.m_ok rfl, wp_go (take_down_at R (n := n) (by omega) hb hs (by omega) M S (by omega) (hl p List.mem_cons_self)) fun d st1 ⟨_, f1, M1, S1⟩ => fin _ _ _ st1 f1 M1 S1⟩
    · rw [if_neg hg] at q
      have stay := fun (y4 y5 y6 : Option D) => clear_loop R hn hb hsrc Q l s said c st f y4 y5 y6 hs (fun q hq => hl q (List.mem_cons_of_mem _ hq)) (by omega) (by omega) M S q
      unfold goes at hg
      simp [e3] at hg
      by_cases c1 : farN sg.reach ≤ far
      · obtain ⟨c2, c3⟩ := hg c1
        rw [if_pos c1, if_pos c2, eqT_oS, lk_some, decide_eq_true c3, if_pos rfl]
        exact stay _ _ _
      · rw [if_neg c1]
        exact stay _ _ _
theorem w_rev_ref {st : Sto} {m : Bool} {i : Nat} {l : List D} (h : st[i]? = some (.lst l)) (P : D → Sto → Prop) (E : Str → Sto → Prop) : wp (gRev m (.ref i)) st P E = wp (mkL m l.reverse) st P E := by
  have e : gRev m (.ref i) st = mkL m l.reverse st := by simp [gRev, lstOf, h]
  unfold wp
  rw [e]
theorem clear_ok {b : Book} {KS : List Str} (hb : b.run KS) {far : Int} {g : Option Str} {s : RSt} {said : List Str} {c : Nat} (h : s.ok b KS c) : (clear b far g s said).1.ok b KS (c + 12) ∧ (clear b far g s said).2.length ≤ said.length + 360 := by
  have hf := stand_few hb.st h
  have q := clearL_ok hb (far := far) (g := g) (l := s.stand.reverse) (said := said) h (fun p hp => h.st p (by simpa using hp))
  rw [List.length_reverse] at q
  obtain ⟨q1, q2⟩ := q
  exact ⟨⟨q1.now, q1.st, q1.sn, q1.br, q1.bn, q1.rest, by have := q1.told; show (clearL _ _ _ _ _).1.told.length ≤ _; omega, by have := q1.bad; show (clearL _ _ _ _ _).1.bad.length ≤ _; omega⟩, by show (clearL _ _ _ _ _).2.length ≤ _; omega⟩
theorem clear_at (R : RunT T gc) (hn : 6 < n) (hb : b.run KS) {far : Int} {g : Option Str} {sd : Nat} {s : RSt} {said : List Str} {c : Nat} {st : Sto} {f : Fp} (hs : s.ok b KS c) (hc : c ≤ 90000) (hsl : said.length ≤ 900000) (M : Mid st0 X st r b s f kD) (S : SaidAt st0 X st f sd said) :
    wp (cfN T gc n "Runner.clear" [.ref r, .int far, oS g, .ref sd]) st (fun d st1 => d = .non ∧ ∃ f1, Mid st0 X st1 r b (clear b far g s said).1 f1 kD ∧ SaidAt st0 X st1 f1 sd (clear b far g s said).2) noX := by
  obtain ⟨n, rfl⟩ : ∃ k, n = k + 1 := ⟨n - 1, by omega⟩
  have hf := stand_few hb.st hs
  rw [w_fn R.clear]
  simp [k_p_Runner_clear, M.at_.f_stand]
  rw [w_rev_ref M.at_.stand]
  simp [srcQ]
  refine ⟨by omega, ?_⟩
  rw [← List.map_reverse]
  refine clear_loop R (by omega) hb rfl _ s.stand.reverse s said c st f none none none hs (fun p hp => hs.st p (by simpa using hp)) (by simp; omega) (by simp; omega) M S fun x4 x5 x6 st1 f1 M1 S1 => ?_
  simp
  refine fnQ_pickN ⟨rfl, _, M1, S1⟩ fun hd => ⟨rfl, _, M.take M1 hd, ?_, S1.own, S1.ne⟩
  rw [List.getElem?_take_of_lt (lt_of S.at_)]; exact S1.at_
/-! ### leave_group -/
theorem bD_val (w : List (Str × Str × Str)) (k : Str) : valG (bD w) (Sum.inr k) = (valG w k).map fun q => .tup [.str q.1, .str q.2] := by
  unfold valG bD
  rw [List.find?_map]
  induction w with
  | nil => rfl
  | cons p w ih =>
    simp only [List.find?_cons, Function.comp_def] at ih ⊢
    by_cases h : p.1 = k
    · simp [h]
    · have : ¬ (Sum.inr p.1 : Key) = Sum.inr k := fun z => h (by injection z)
      simp only [h, this, decide_false]
      exact ih
theorem bD_put (w : List (Str × Str × Str)) (k : Str) (v : Str × Str) : putG (bD w) (Sum.inr k) (.tup [.str v.1, .str v.2]) = bD (putG w k v) := by
  unfold putG
  have e : ((bD w).any fun kv => decide (kv.1 = Sum.inr k)) = (w.any fun kv => decide (kv.1 = k)) := by
    unfold bD
    rw [List.any_map]
    congr 1
    funext p
    simp
  rw [e]
  by_cases h : (w.any fun kv => decide (kv.1 = k)) = true
  · rw [if_pos h, if_pos h]
    unfold bD
    rw [List.map_map, List.map_map]
    congr 1
    funext p
    by_cases hp : p.1 = k
    · simp [hp]
    · simp [hp]
  · rw [if_neg h, if_neg h]
    unfold bD
    rw [List.map_append]; rfl
theorem bD_drop (w : List (Str × Str × Str)) (k : Str) : dropG (bD w) (Sum.inr k) = bD (dropG w k) := by
  unfold dropG bD
  rw [List.filter_map]
  congr 2
  funext p
  simp
theorem valG_of {τ : Type} {w : List (Str × τ)} (hn : (w.map (·.1)).Nodup) {p : Str × τ} (hp : p ∈ w) : valG w p.1 = some p.2 := by
  unfold valG
  have : w.filter (fun kv => decide (kv.1 = p.1)) = [p] := filter_key (·.1) hn hp
  rw [← List.head?_filter, this]; rfl
theorem leave_loop (R : RunT T gc) (hn : 5 < n) (hb : b.run KS) {g : Str} {src : Src} (hsrc : src.grd = none) (Q : Out → Sto → Prop) : ∀ (l done : List (Str × Str × Str)) (s : RSt) (st : Sto) (f : Fp) (x2 x3 x4 : Option D) (c : Nat),
    s.ok b KS c → s.brok = done ++ l → Mid st0 X st r b s f kD →
    (∀ x2 x3 x4 st1, Mid st0 X st1 r b { s with brok := done ++ l.filter fun p => !lostB b g p } f kD → Q (.nx [some (.ref r), some (.str g), x2, x3, x4]) st1) →
    wpS (loopF src (.one 2) (exSs (cfN T gc n) gc (.cons (.asg (.tup [3, 4]) (.idx (.fld "Runner" "broken" (.var 0)) (.var 2)))
   (.cons (.ife (.band (.cons (.cmp .Eq (.idx (.call "stage_at" 2 (.cons (.fld "Runner" "book" (.var 0)) (.cons (.var 2) .nil))) (.int 1)) (.str "group")) (.cons (.cmp .NotEq (.var 4) (.var 1)) .nil)))
    (.cons (.expr (.bm .dpop (.fld "Runner" "broken" (.var 0)) (.cons (.var 2) .nil)))
    .nil)
    .nil)
   .nil))) (l.map fun p => .str p.1)) [some (.ref r), some (.str g), x2, x3, x4] st Q
  | [], done, s, st, f, x2, x3, x4, c, hs, hbr, M, q => by
    have hok : src.ok st := by unfold Src.ok; rw [hsrc]; trivial
    show wpS (loopF src _ _ []) _ _ _
    rw [loop_nil hok]
    refine q x2 x3 x4 st ?_
    have : ({ s with brok := done ++ List.filter (fun p => !lostB b g p) [] } : RSt) = s := by
      rw [List.filter_nil, ← hbr]
    rw [this]; exact M
  | p :: l, done, s, st, f, x2, x3, x4, c, hs, hbr, M, q => by
    have hok : src.ok st := by unfold Src.ok; rw [hsrc]; trivial
    have hp : p ∈ s.brok := by rw [hbr]; simp
    obtain ⟨sg, hsg, hname, e1, e2, e3, e4⟩ := stg_of hb.st (hs.br p hp)
    have h := M.at_
    have hv := valG_of hs.bn hp
    rw [List.map_cons, loop_cons hok (ρ1 := [some (.ref r), some (.str g), some (.str p.1), x3, x4]) rfl]
    simp [h.f_brok, ix_dct h.brok, bD_val, hv, bt_tup, setD, h.f_book]
    rw [← hname, stage_at_at R.stage_at (by omega) hb.st hsg, ixs1, lk_some, hname]
    simp [eqT_str]
    by_cases c1 : sg.reach = "group"
    · by_cases c2 : p.2.2 = g
      · simp [c1, c2]
        have e : lostB b g p = false := by simp [lostB, c2]
        refine leave_loop R hn hb hsrc Q l (done ++ [p]) s st f _ _ _ c hs (by rw [hbr]; simp) M fun y2 y3 y4 st1 M1 => q y2 y3 y4 st1 ?_
        have e2 : (done ++ [p]) ++ l.filter (fun p => !lostB b g p) = done ++ (p :: l).filter fun p => !lostB b g p := by
          rw [List.filter_cons_of_pos (by rw [e]; rfl)]; simp
        rw [← e2]; exact M1
      · simp [c1, c2, h.f_brok, bt_dct h.brok]
        rw [w_dpop h.brok]
        simp [bD_val, hv, bD_drop]
        have e : lostB b g p = true := by simp [lostB, c2, e3, c1]
        have ed : dropG s.brok p.1 = done ++ l := by
          have hn2 := hs.bn
          rw [hbr, List.map_append, List.map_cons, List.nodup_append] at hn2
          unfold dropG
          rw [hbr, List.filter_append, List.filter_cons_of_neg (by simp)]
          have f1 : done.filter (fun kv => decide (kv.1 ≠ p.1)) = done := List.filter_eq_self.mpr fun x hx => decide_eq_true (hn2.2.2 x.1 (List.mem_map_of_mem hx) p.1 List.mem_cons_self)
          have f2 : l.filter (fun kv => decide (kv.1 ≠ p.1)) = l := List.filter_eq_self.mpr fun x hx => decide_eq_true fun z => (List.nodup_cons.mp hn2.2.1).1 (by rw [← z]; exact List.mem_map_of_mem hx)
          rw [f1, f2]
        rw [ed]
        have M2 : Mid st0 X (st.set f.brok (.dct (bD (done ++ l)))) r b { s with brok := done ++ l } f kD := ⟨h.setBrok _, M.fr.set (M.own _ (by simp [Fp.all])) _, M.r, M.own⟩
        have hs2 : ({ s with brok := done ++ l } : RSt).ok b KS c := by
          refine ⟨hs.now, hs.st, hs.sn, fun q hq => hs.br q ?_, ?_, hs.rest, hs.told, hs.bad⟩
          · rw [hbr]
            rcases List.mem_append.mp hq with z | z
            · simp [z]
            · simp [z]
          · have hn2 := hs.bn
            rw [hbr] at hn2
            exact hn2.sublist (List.Sublist.map _ (List.Sublist.append_left (List.sublist_cons_self p l) done))
        refine leave_loop R hn hb hsrc Q l done { s with brok := done ++ l } _ f _ _ _ c hs2 rfl M2 fun y2 y3 y4 st1 M1 => q y2 y3 y4 st1 ?_
        rw [List.filter_cons_of_neg (by rw [e]; simp)]
        exact M1
    · simp [c1]
      have e : lostB b g p = false := by simp [lostB, e3, c1]
      refine leave_loop R hn hb hsrc Q l (done ++ [p]) s st f _ _ _ c hs (by rw [hbr]; simp) M fun y2 y3 y4 st1 M1 => q y2 y3 y4 st1 ?_
      have e2 : (done ++ [p]) ++ l.filter (fun p => !lostB b g p) = done ++ (p :: l).filter fun p => !lostB b g p := by
        rw [List.filter_cons_of_pos (by rw [e]; rfl)]; simp
      rw [← e2]; exact M1
theorem brok_few {b : Book} (hb : b.stOk) {KS : List Str} {c : Nat} {s : RSt} (h : s.ok b KS c) : s.brok.length ≤ 12 := by
  have h1 : (s.brok.map (·.1)).length ≤ b.names.length := nodup_len h.bn (fun x hx => by
    obtain ⟨p, hp, rfl⟩ := List.mem_map.mp hx
    exact h.br p hp)
  have h2 : b.names.length ≤ 12 := by unfold Book.names; rw [List.length_map]; exact hb.few
  rw [List.length_map] at h1
  omega
theorem brok_ok {b : Book} {KS : List Str} {c : Nat} {s : RSt} (h : s.ok b KS c) (q : Str × Str × Str → Bool) : ({ s with brok := s.brok.filter q } : RSt).ok b KS c :=
  ⟨h.now, h.st, h.sn, fun p hp => h.br p (List.mem_filter.mp hp).1, h.bn.sublist (List.Sublist.map _ List.filter_sublist), h.rest, h.told, h.bad⟩
theorem leaveGroup_ok {b : Book} {KS : List Str} (hb : b.run KS) {c : Nat} {s : RSt} (h : s.ok b KS c) (g : Str) : (leaveGroup b g s).ok b KS (c + 12) := (clear_ok hb (brok_ok h _)).1
theorem leave_group_at (R : RunT T gc) (hn : 7 < n) (hb : b.run KS) {g : Str} {s : RSt} {c : Nat} {st : Sto} {f : Fp} (hs : s.ok b KS c) (hc : c ≤ 90000) (M : Mid st0 X st r b s f kD) :
    wp (cfN T gc n "Runner.leave_group" [.ref r, .str g]) st (fun d st1 => d = .non ∧ ∃ f1, Mid st0 X st1 r b (leaveGroup b g s) f1 kD) noX := by
  obtain ⟨n, rfl⟩ : ∃ k, n = k + 1 := ⟨n - 1, by omega⟩
  have hf := brok_few hb.st hs
  rw [w_fn R.leave_group]
  simp [k_p_Runner_leave_group, M.at_.f_brok]
  rw [w_listD_dct M.at_.brok]
  have e : ((bD s.brok).map fun kv => ofKey kv.1) = s.brok.map fun p => .str p.1 := by
    unfold bD; rw [List.map_map]; rfl
  rw [e]
  simp [srcQ]
  refine ⟨by omega, ?_⟩
  refine leave_loop R (by omega) hb rfl _ s.brok [] s st f none none none c hs rfl M fun x2 x3 x4 st1 M1 => ?_
  rw [List.nil_append] at M1
  simp [M1.at_.m_ok (m := "clear") rfl]
  have hs1 := brok_ok hs fun p => !lostB b g p
  have M2 : Mid st0 X (st1 ++ [.lst []]) r b { s with brok := s.brok.filter fun p => !lostB b g p } f kD := ⟨M1.at_.push _, M1.fr.push _, M1.r, M1.own⟩
  have hn2 : st1.length ∉ f.all := fun z => by have := M1.at_.lt _ z; omega
  have S2 : SaidAt st0 X (st1 ++ [.lst []]) f st1.length [] := ⟨by simp, .inr M1.fr.len, hn2⟩
  refine wp_go (clear_at (g := some g) R (n := n) (by omega) hb hs1 hc (by simp) M2 S2) fun d st2 ⟨_, f1, M3, S3⟩ => ?_
  exact fnQ_pickN ⟨rfl, f1, M3⟩ fun hd => ⟨rfl, f1, M.take M3 hd⟩
end
end TB
set_option Elab.async false
set_option linter.all false
set_option maxRecDepth 100000
set_option maxHeartbeats 4000000
/-! TB35: up, set_up -/
namespace TB
open PySem PySem.Spec L2
def oU : Option (Str × Str) → D
  | none => .non
  | some o => .tup [.str o.1, .str o.2]
structure KeptAt (st0 : Sto) (X : List Nat) (st : Sto) (f : Fp) (k : Nat) (w : Wd) : Prop where
  at_ : st[k]? = some (.dct (wD w))
  n1 : k ≠ f.now
  n2 : k ≠ f.brok
  own : Own st0 X k
/-- the world that is kept -/
def KeptO (st0 : Sto) (X : List Nat) (st : Sto) (f : Fp) (kD : D) : Option Wd → Prop
  | none => kD = .non
  | some w => ∃ k, kD = .ref k ∧ KeptAt st0 X st f k w
theorem KeptO.lt {st0 : Sto} {X : List Nat} {st : Sto} {f : Fp} {kD : D} {o : Option Wd} (h : KeptO st0 X st f kD o) : ∀ k, kD = .ref k → k < st.length := by
  intro k e
  cases o with
  | none => rw [show kD = .non from h] at e; cases e
  | some w =>
    obtain ⟨k', e', hk⟩ := h
    rw [e'] at e; cases e
    exact lt_of hk.at_
theorem RunAt.smallK {st st1 : Sto} {r : Nat} {b b' : Book} {s s' : RSt} {f f' : Fp} {kD kD' : D} (h0 : RunAt st r b' s' f' kD') (hk : ∀ k, kD' = .ref k → k < st.length) (h : RunAt st1 r b s f kD) (hd : dropB st st1) : ∀ k, kD = .ref k → k < st.length := by
  have hr := lt_of h0.ins
  have e : (st1.take st.length)[r]? = some (.ins "Runner" (insF b s f kD)) := by rw [List.getElem?_take_of_lt hr]; exact h.ins
  rcases hd with hd | hd
  · rw [hd, h0.ins] at e
    have e2 : insF b' s' f' kD' = insF b s f kD := by injection e with e; injection e
    unfold insF at e2
    simp only [List.cons.injEq, Prod.mk.injEq, true_and, D.ref.injEq, and_true] at e2
    intro k ek
    exact hk k (by rw [e2.2.2.2.2.2.2.2.2.1]; exact ek)
  · have := hd _ (List.mem_of_getElem? e)
    simp only [MO.rlt, insF, List.map_cons, List.map_nil, D.rlts, D.rlt, Bool.and_eq_true, decide_eq_true_eq] at this
    intro k ek
    subst ek
    have h2 := this.2.2.2.2.2.2.2.2.1
    simpa [D.rlt] using h2
theorem KeptO.take {st0 : Sto} {X : List Nat} {st : Sto} {f : Fp} {kD : D} {o : Option Wd} (h : KeptO st0 X st f kD o) {n : Nat} (hk : ∀ k, kD = .ref k → k < n) : KeptO st0 X (st.take n) f kD o := by
  cases o with
  | none => exact h
  | some w =>
    obtain ⟨k, e, hh⟩ := h
    exact ⟨k, e, by rw [List.getElem?_take_of_lt (hk k e)]; exact hh.at_, hh.n1, hh.n2, hh.own⟩
theorem KeptO.set {st0 : Sto} {X : List Nat} {st : Sto} {f : Fp} {kD : D} {o : Option Wd} (h : KeptO st0 X st f kD o) {j : Nat} (p : MO) (hj : ∀ k, kD = .ref k → j ≠ k) : KeptO st0 X (st.set j p) f kD o := by
  cases o with
  | none => exact h
  | some w =>
    obtain ⟨k, e, hh⟩ := h
    exact ⟨k, e, get_set hh.at_ (hj k e), hh.n1, hh.n2, hh.own⟩
theorem KeptO.ne {st0 : Sto} {X : List Nat} {st : Sto} {f : Fp} {kD : D} {o : Option Wd} (h : KeptO st0 X st f kD o) {j : Nat} {p : MO} (hj : st[j]? = some p) (hp : ∀ w, p ≠ .dct w) : ∀ k, kD = .ref k → j ≠ k := by
  intro k e z
  subst z
  cases o with
  | none => rw [show kD = .non from h] at e; cases e
  | some w =>
    obtain ⟨k', e', hk⟩ := h
    rw [e'] at e; cases e
    rw [hk.at_] at hj; cases hj
    exact hp _ rfl
theorem KeptO.now {st0 : Sto} {X : List Nat} {st : Sto} {f : Fp} {kD : D} {o : Option Wd} (h : KeptO st0 X st f kD o) : ∀ k, kD = .ref k → f.now ≠ k ∧ f.brok ≠ k := by
  intro k e
  cases o with
  | none => rw [show kD = .non from h] at e; cases e
  | some w =>
    obtain ⟨k', e', hk⟩ := h
    rw [e'] at e; cases e
    exact ⟨Ne.symm hk.n1, Ne.symm hk.n2⟩
section
variable {T : Tab} {gc : Str → Option D} {n : Nat} {st st0 : Sto} {X : List Nat} {r : Nat} {b : Book} {s : RSt} {f : Fp} {kD : D} {KS : List Str}
theorem group_at (K : LookT T) (hG : T.get "group_of" = some k_p_group_of) (hn : 8 < n) {b : Book} (hb : b.fits) (hd : (b.rows.map Row.path).Nodup) {r : Row} (hr : r ∈ b.rows) (P : D → Sto → Prop) (E : Str → Sto → Prop) : wp (cfN T gc n "group_of" [b.d, .str r.path]) st P E = P (.str r.group) st := by
  refine wp_det ?_ P E
  obtain ⟨n, rfl⟩ : ∃ k, n = k + 1 := ⟨n - 1, by omega⟩
  rw [w_fn hG]
  simp [k_p_group_of, try_at_at K (show 7 < n by omega) hb hd hr, ix_row1]
  rw [fnQ_rt rfl (fun i e => by cases e)]
  exact ⟨rfl, rfl⟩
def ssTail : Ss → Ss
  | .cons _ ss => ss
  | .nil => .nil
def upRest : Ss := ssTail (ssTail k_p_Runner_up.body)
/-- behind the look at what is kept -/
theorem up_rest (R : RunT T gc) (hn : 4 < n) (hb : b.run KS) {c : Nat} (hs : s.ok b KS c) {st1 : Sto} {kD0 : D} (M0 : Mid st0 X st r b s f kD0) (hk0 : ∀ k, kD0 = .ref k → k < st.length) (M : Mid st0 X st1 r b s f kD) {kept kept0 : Option Wd} (Kp : KeptO st0 X st1 f kD kept) {sd : Nat} {said : List Str} (hsd0 : sd < st.length) (S : SaidAt st0 X st1 f sd said) (hl : said.length ≤ 1000000) {x g : Str} (hx : x ∈ b.names)
    (hkk : kept = if b.reachOf x = "each" ∧ kept0 = none then some s.now else kept0) :
    wpS (exSs (cfN T gc n) gc upRest) [some (.ref r), some (.str x), some (.str g), some (.ref sd), some (.str (b.reachOf x)), none] st1 (fnQ st (fun d st1 => d = oU (upM b s said kept0 x g).2.2.2 ∧ ∃ kD1, Mid st0 X st1 r b (upM b s said kept0 x g).1 f kD1 ∧ SaidAt st0 X st1 f sd (upM b s said kept0 x g).2.1 ∧ KeptO st0 X st1 f kD1 (upM b s said kept0 x g).2.2.1) noX) := by
  obtain ⟨sg, hsg, hname, e1, e2, e3, e4⟩ := stg_of hb.st hx
  obtain ⟨pre, os, _⟩ := hb.st.ok.mem hsg
  have h := M.at_
  have hnow := hs.now.len hb.ks
  have hds : (b.ups x).length ≤ 30 := by rw [e2]; exact (hb.ud sg hsg).1.few
  have hf := stand_few hb.st hs
  have hbf := brok_few hb.st hs
  -- behind the ups
  have hne : f.now ≠ sd := fun z => S.ne (by simp [Fp.all, z])
  have h2 : RunAt (stW st1 f.now (doAll s.now said 0 (b.ups x)).1 sd (doAll s.now said 0 (b.ups x)).2.1) r b { s with now := (doAll s.now said 0 (b.ups x)).1 } f kD := (h.setNow (doAll s.now said 0 (b.ups x)).1).other (j := sd) (.lst ((doAll s.now said 0 (b.ups x)).2.1.map .str)) (h.ne_lst S.at_).1 S.ne
  have F2 : Fr st0 X (stW st1 f.now (doAll s.now said 0 (b.ups x)).1 sd (doAll s.now said 0 (b.ups x)).2.1) := (M.fr.set (M.own _ (by simp [Fp.all])) _).set S.own _
  have S2 : (stW st1 f.now (doAll s.now said 0 (b.ups x)).1 sd (doAll s.now said 0 (b.ups x)).2.1)[sd]? = some (.lst ((doAll s.now said 0 (b.ups x)).2.1.map .str)) := stW_s (lt_of S.at_)
  have K2 : KeptO st0 X (stW st1 f.now (doAll s.now said 0 (b.ups x)).1 sd (doAll s.now said 0 (b.ups x)).2.1) f kD kept := (Kp.set _ fun k e => (Kp.now k e).1).set _ fun k e => by
    refine Ne.symm fun z => ?_
    have := (Kp.ne S.at_ (fun w e => by cases e)) k e
    exact this z.symm
  have AD := all_done_at (P := fun d st2 => d = whD (doAll s.now said 0 (b.ups x)).2.2 ∧ st2 = stW st1 f.now (doAll s.now said 0 (b.ups x)).1 sd (doAll s.now said 0 (b.ups x)).2.1) (E := noX) (gc := gc) (n := n) R.done R.all_done (by omega) h.now S.at_ (b.ups x) (by omega) (by omega)
  have AD2 : ∀ (P : D → Sto → Prop) (E : Str → Sto → Prop), wp (cfN T gc n "all_done" [.ref f.now, dsD (b.ups x), .ref sd]) st1 P E = P (whD (doAll s.now said 0 (b.ups x)).2.2) (stW st1 f.now (doAll s.now said 0 (b.ups x)).1 sd (doAll s.now said 0 (b.ups x)).2.1) := fun P E => all_done_at R.done R.all_done (by omega) h.now S.at_ (b.ups x) (by omega) (by omega) P E
  generalize hst2 : stW st1 f.now (doAll s.now said 0 (b.ups x)).1 sd (doAll s.now said 0 (b.ups x)).2.1 = st2 at h2 F2 S2 K2 AD2
  clear AD
  have SA : ∀ (P : D → Sto → Prop) (E : Str → Sto → Prop), wp (cfN T gc n "stage_at" [b.d, .str x]) st1 P E = P sg.d st1 := fun P E => by
    rw [← hname]; exact stage_at_at R.stage_at (by omega) hb.st hsg P E
  have fin : ∀ (s3 : RSt) (st3 : Sto) (d : D) (said3 : List Str) (kept3 : Option Wd), (∀ i, d ≠ .ref i) → Mid st0 X st3 r b s3 f kD → st3[sd]? = some (.lst (said3.map .str)) → KeptO st0 X st3 f kD kept3 →
      (d = oU (upM b s said kept0 x g).2.2.2 ∧ s3 = (upM b s said kept0 x g).1 ∧ said3 = (upM b s said kept0 x g).2.1 ∧ kept3 = (upM b s said kept0 x g).2.2.1) →
      fnQ st (fun d st1 => d = oU (upM b s said kept0 x g).2.2.2 ∧ ∃ kD1, Mid st0 X st1 r b (upM b s said kept0 x g).1 f kD1 ∧ SaidAt st0 X st1 f sd (upM b s said kept0 x g).2.1 ∧ KeptO st0 X st1 f kD1 (upM b s said kept0 x g).2.2.1) noX (.rt d) st3 := by
    intro s3 st3 d said3 kept3 hd M3 S3 K3 ⟨q1, q2, q3, q4⟩
    subst q2 q3 q4
    refine fnQ_pick hd ⟨q1, kD, M3, ⟨S3, S.own, S.ne⟩, K3⟩ fun hdr => ⟨q1, kD, M0.take M3 hdr, ⟨?_, S.own, S.ne⟩, K3.take (M0.at_.smallK hk0 M3.at_ hdr)⟩
    rw [List.getElem?_take_of_lt hsd0]; exact S3
  have upG : (doAll s.now said 0 (b.ups x)).2.2.1 = "good" → upM b s said kept0 x g = ({ s with now := (doAll s.now said 0 (b.ups x)).1, stand := s.stand ++ [(x, if b.reachOf x = "group" then g else "")] }, (doAll s.now said 0 (b.ups x)).2.1, kept, none) := fun hg => by
    unfold upM; dsimp only; rw [if_pos hg, ← hkk]
  have upB : ¬ (doAll s.now said 0 (b.ups x)).2.2.1 = "good" → upM b s said kept0 x g = ({ s with now := (doAll s.now said 0 (b.ups x)).1, brok := if b.reachOf x = "each" then s.brok else putG s.brok x (if (doAll s.now said 0 (b.ups x)).2.2.1 = "bad" then ("broken" : Str) else (doAll s.now said 0 (b.ups x)).2.2.1, if b.reachOf x = "group" then g else "") }, (doAll s.now said 0 (b.ups x)).2.1, kept, some (if (doAll s.now said 0 (b.ups x)).2.2.1 = "bad" then ("broken" : Str) else (doAll s.now said 0 (b.ups x)).2.2.1, x)) := fun hg => by
    unfold upM; dsimp only; rw [if_neg hg, ← hkk]
  have estand : ∀ g' : Str, s.stand.map pairD ++ [D.tup [.str x, .str g']] = (s.stand ++ [(x, g')]).map pairD := fun g' => by simp [pairD]
  have good : ∀ g' : Str, Mid st0 X (st2.set f.stand (.lst (s.stand.map pairD ++ [D.tup [.str x, .str g']]))) r b { s with now := (doAll s.now said 0 (b.ups x)).1, stand := s.stand ++ [(x, g')] } f kD := fun g' => by
    rw [estand]
    exact ⟨h2.setStand _, F2.set (M.own _ (by simp [Fp.all])) _, M.r, M.own⟩
  have goodS : ∀ g' : Str, (st2.set f.stand (.lst (s.stand.map pairD ++ [D.tup [.str x, .str g']])))[sd]? = some (.lst ((doAll s.now said 0 (b.ups x)).2.1.map .str)) := fun g' => get_set S2 (fun z => S.ne (by simp [Fp.all, ← z]))
  have goodK : ∀ g' : Str, KeptO st0 X (st2.set f.stand (.lst (s.stand.map pairD ++ [D.tup [.str x, .str g']]))) f kD kept := fun g' => K2.set _ (K2.ne h2.stand (fun w e => by cases e))
  have lost : ∀ w g' : Str, Mid st0 X (st2.set f.brok (.dct (bD (putG s.brok x (w, g'))))) r b { s with now := (doAll s.now said 0 (b.ups x)).1, brok := putG s.brok x (w, g') } f kD := fun w g' => ⟨h2.setBrok _, F2.set (M.own _ (by simp [Fp.all])) _, M.r, M.own⟩
  have lostS : ∀ w g' : Str, (st2.set f.brok (.dct (bD (putG s.brok x (w, g')))))[sd]? = some (.lst ((doAll s.now said 0 (b.ups x)).2.1.map .str)) := fun w g' => get_set S2 (fun z => S.ne (by simp [Fp.all, ← z]))
  have lostK : ∀ w g' : Str, KeptO st0 X (st2.set f.brok (.dct (bD (putG s.brok x (w, g'))))) f kD kept := fun w g' => K2.set _ fun k e => (K2.now k e).2
  rcases os.reach with hre | hre | hre
  · simp [upRest, ssTail, k_p_Runner_up, e3, hre, h.f_now, h.f_book]
    rw [SA]
    simp [ixs3]
    rw [← e2, AD2]
    simp [whD]
    by_cases hg : (doAll s.now said 0 (b.ups x)).2.2.1 = "good"
    · rw [if_pos hg]
      simp [h2.f_stand, bt_lst' h2.stand]
      rw [lst_app h2.stand (by simp; omega)]
      refine fin _ _ .non _ kept (fun i e => by cases e) (good "") (goodS "") (goodK "") ?_
      rw [upG hg, e3, hre]
      exact ⟨rfl, rfl, rfl, rfl⟩
    · rw [if_neg hg]
      have hw := doAll_word (b.ups x) s.now said 0
      rcases hw with hw | hw | hw
      · exact absurd hw hg
      · simp [hw]
        refine fin _ _ (.tup [.str "broken", .str x]) _ kept (fun i e => by cases e) ⟨h2, F2, M.r, M.own⟩ S2 K2 ?_
        rw [upB hg, e3, hre, hw]
        exact ⟨rfl, rfl, rfl, rfl⟩
      · simp [hw]
        refine fin _ _ (.tup [.str "left", .str x]) _ kept (fun i e => by cases e) ⟨h2, F2, M.r, M.own⟩ S2 K2 ?_
        rw [upB hg, e3, hre, hw]
        exact ⟨rfl, rfl, rfl, rfl⟩
  · simp [upRest, ssTail, k_p_Runner_up, e3, hre, h.f_now, h.f_book]
    rw [SA]
    simp [ixs3]
    rw [← e2, AD2]
    simp [whD]
    by_cases hg : (doAll s.now said 0 (b.ups x)).2.2.1 = "good"
    · rw [if_pos hg]
      simp [h2.f_stand, bt_lst' h2.stand]
      rw [lst_app h2.stand (by simp; omega)]
      refine fin _ _ .non _ kept (fun i e => by cases e) (good g) (goodS g) (goodK g) ?_
      rw [upG hg, e3, hre]
      exact ⟨rfl, rfl, rfl, rfl⟩
    · rw [if_neg hg]
      have hw := doAll_word (b.ups x) s.now said 0
      rcases hw with hw | hw | hw
      · exact absurd hw hg
      · simp [hw, h2.f_brok]
        rw [dput_at h2.brok (by simp [bD]; omega), bD_put s.brok x ("broken", g)]
        refine fin _ _ (.tup [.str "broken", .str x]) _ kept (fun i e => by cases e) (lost "broken" g) (lostS "broken" g) (lostK "broken" g) ?_
        rw [upB hg, e3, hre, hw]
        exact ⟨rfl, rfl, rfl, rfl⟩
      · simp [hw, h2.f_brok]
        rw [dput_at h2.brok (by simp [bD]; omega), bD_put s.brok x ("left", g)]
        refine fin _ _ (.tup [.str "left", .str x]) _ kept (fun i e => by cases e) (lost "left" g) (lostS "left" g) (lostK "left" g) ?_
        rw [upB hg, e3, hre, hw]
        exact ⟨rfl, rfl, rfl, rfl⟩
  · simp [upRest, ssTail, k_p_Runner_up, e3, hre, h.f_now, h.f_book]
    rw [SA]
    simp [ixs3]
    rw [← e2, AD2]
    simp [whD]
    by_cases hg : (doAll s.now said 0 (b.ups x)).2.2.1 = "good"
    · rw [if_pos hg]
      simp [h2.f_stand, bt_lst' h2.stand]
      rw [lst_app h2.stand (by simp; omega)]
      refine fin _ _ .non _ kept (fun i e => by cases e) (good "") (goodS "") (goodK "") ?_
      rw [upG hg, e3, hre]
      exact ⟨rfl, rfl, rfl, rfl⟩
    · rw [if_neg hg]
      have hw := doAll_word (b.ups x) s.now said 0
      rcases hw with hw | hw | hw
      · exact absurd hw hg
      · simp [hw, h2.f_brok]
        rw [dput_at h2.brok (by simp [bD]; omega), bD_put s.brok x ("broken", "")]
        refine fin _ _ (.tup [.str "broken", .str x]) _ kept (fun i e => by cases e) (lost "broken" "") (lostS "broken" "") (lostK "broken" "") ?_
        rw [upB hg, e3, hre, hw]
        exact ⟨rfl, rfl, rfl, rfl⟩
      · simp [hw, h2.f_brok]
        rw [dput_at h2.brok (by simp [bD]; omega), bD_put s.brok x ("left", "")]
        refine fin _ _ (.tup [.str "left", .str x]) _ kept (fun i e => by cases e) (lost "left" "") (lostS "left" "") (lostK "left" "") ?_
        rw [upB hg, e3, hre, hw]
        exact ⟨rfl, rfl, rfl, rfl⟩
theorem w_fn' {T : Tab} {gc : Str → Option D} {n : Nat} {f : Str} {d : Def} (h : T.get f = some d) {body : Ss} (hb : d.body = body) {ds : List D} {st : Sto} {P : D → Sto → Prop} {E : Str → Sto → Prop} :
    wp (cfN T gc (n + 1) f ds) st P E = wpS (exSs (cfN T gc n) gc body) (ds.map some ++ List.replicate (d.N.length - ds.length) none) st (fnQ st P E) := by
  rw [w_fn h, hb]
theorem up_at (R : RunT T gc) (hn : 5 < n) (hb : b.run KS) {c : Nat} (hs : s.ok b KS c) (M : Mid st0 X st r b s f kD) {kept : Option Wd} (Kp : KeptO st0 X st f kD kept) {sd : Nat} {said : List Str} (S : SaidAt st0 X st f sd said) (hl : said.length ≤ 1000000) {x g : Str} (hx : x ∈ b.names) :
    wp (cfN T gc n "Runner.up" [.ref r, .str x, .str g, .ref sd]) st (fun d st1 => d = oU (upM b s said kept x g).2.2.2 ∧ ∃ kD1, Mid st0 X st1 r b (upM b s said kept x g).1 f kD1 ∧ SaidAt st0 X st1 f sd (upM b s said kept x g).2.1 ∧ KeptO st0 X st1 f kD1 (upM b s said kept x g).2.2.1) noX := by
  obtain ⟨n, rfl⟩ : ∃ k, n = k + 1 := ⟨n - 1, by omega⟩
  obtain ⟨sg, hsg, hname, e1, e2, e3, e4⟩ := stg_of hb.st hx
  have h := M.at_
  have SA : ∀ (P : D → Sto → Prop) (E : Str → Sto → Prop), wp (cfN T gc n "stage_at" [b.d, .str x]) st P E = P sg.d st := fun P E => by
    rw [← hname]; exact stage_at_at R.stage_at (by omega) hb.st hsg P E
  rw [w_fn' R.up (body := .cons (.asg (.one 4) (.idx (.call "stage_at" 2 (.cons (.fld "Runner" "book" (.var 0)) (.cons (.var 1) .nil))) (.int 1)))
  (.cons (.ife (.band (.cons (.cmp .Eq (.var 4) (.str "each")) (.cons (.cmp .Is (.fld "Runner" "kept" (.var 0)) .non) .nil)))
   (.cons (.fput "Runner" "kept" (.var 0) (.blt .dict (.fld "Runner" "now" (.var 0))))
   .nil)
   .nil) upRest)) rfl]
  have rest : ∀ (st1 : Sto) (kD1 : D) (kept1 : Option Wd), Mid st0 X st1 r b s f kD1 → KeptO st0 X st1 f kD1 kept1 → SaidAt st0 X st1 f sd said → kept1 = (if b.reachOf x = "each" ∧ kept = none then some s.now else kept) → _ := fun st1 kD1 kept1 M1 K1 S1 e => up_rest (gc := gc) (n := n) R (by omega) hb hs M (Kp.lt) M1 K1 (lt_of S.at_) S1 hl hx (kept0 := kept) (g := g) e
  simp [k_p_Runner_up, h.f_book]
  rw [SA]
  simp [ixs1]
  rw [← e3]
  by_cases hre : b.reachOf x = "each"
  · rw [if_pos hre]
    simp [h.f_kept]
    cases kept with
    | none =>
      have ek : kD = .non := Kp
      subst ek
      simp [D.isNon, h.f_now]
      rw [w_dictD h.now, w_fput (get_push h.ins _) (by simp [insF])]
      have h1 : RunAt ((st ++ [MO.dct (wD s.now)]).set r (.ins "Runner" (insF b s f (.ref st.length)))) r b s f (.ref st.length) := (h.push [.dct (wD s.now)]).fld rfl rfl rfl rfl rfl
      have ef : fputG "kept" (.ref st.length) (insF b s f .non) = insF b s f (.ref st.length) := rfl
      rw [ef]
      have hlt := h.lt
      have hrl := lt_of h.ins
      refine rest _ (.ref st.length) (some s.now) ⟨h1, (M.fr.push _).set M.r _, M.r, M.own⟩ ⟨st.length, rfl, ?_, ?_, ?_, .inr M.fr.len⟩ ⟨get_set (get_push S.at_ _) (Ne.symm (h.ne_lst S.at_).1), S.own, S.ne⟩ (by simp [hre])
      · exact get_set (by simp) (Nat.ne_of_lt hrl)
      · have := hlt f.now (by simp [Fp.all]); omega
      · have := hlt f.brok (by simp [Fp.all]); omega
    | some w =>
      obtain ⟨k, ek, hk⟩ := Kp
      subst ek
      simp [D.isNon]
      exact rest st (.ref k) (some w) M ⟨k, rfl, hk⟩ S (by simp)
  · rw [if_neg hre]
    exact rest st kD kept M Kp S (by simp [hre])
theorem upM_ok {b : Book} {KS : List Str} (hb : b.run KS) {c : Nat} {s : RSt} (h : s.ok b KS c) {x g : Str} (hx : x ∈ b.names) (hxs : x ∉ s.stand.map (·.1)) (said : List Str) (kept : Option Wd) : (upM b s said kept x g).1.ok b KS c ∧ (upM b s said kept x g).2.1.length ≤ said.length + 30 := by
  obtain ⟨sg, hsg, hname, e1, e2, e3, e4⟩ := stg_of hb.st hx
  have hw : okW KS (doAll s.now said 0 (b.ups x)).1 := okW.all h.now (by rw [e2]; exact (hb.ud sg hsg).1.key)
  have hl := (doAll_len (b.ups x) s.now said 0).2
  have h2 : (b.ups x).length ≤ 30 := by rw [e2]; exact (hb.ud sg hsg).1.few
  unfold upM
  dsimp only
  by_cases hg : (doAll s.now said 0 (b.ups x)).2.2.1 = "good"
  · rw [if_pos hg]
    refine ⟨⟨hw, fun p hp => ?_, ?_, h.br, h.bn, h.rest, h.told, h.bad⟩, by show (doAll s.now said 0 (b.ups x)).2.1.length ≤ _; omega⟩
    · rcases List.mem_append.mp hp with z | z
      · exact h.st p z
      · simp at z; subst z; exact hx
    · rw [List.map_append, List.nodup_append]
      exact ⟨h.sn, by simp, fun a ha b' hb' => by simp at hb'; subst hb'; rintro rfl; exact hxs ha⟩
  · rw [if_neg hg]
    refine ⟨⟨hw, h.st, h.sn, fun p hp => ?_, ?_, h.rest, h.told, h.bad⟩, by show (doAll s.now said 0 (b.ups x)).2.1.length ≤ _; omega⟩
    · have hp : p ∈ (if b.reachOf x = "each" then s.brok else putG s.brok x _) := hp
      split at hp
      · exact h.br p hp
      · have : p.1 ∈ (putG s.brok x _).map (·.1) := List.mem_map_of_mem hp
        rw [put_keys] at this
        split at this
        · obtain ⟨q, hq, e⟩ := List.mem_map.mp this
          rw [← e]; exact h.br q hq
        · rcases List.mem_append.mp this with z | z
          · obtain ⟨q, hq, e⟩ := List.mem_map.mp z
            rw [← e]; exact h.br q hq
          · simp at z; rw [z]; exact hx
    · show ((if b.reachOf x = "each" then s.brok else putG s.brok x _).map (·.1)).Nodup
      split
      · exact h.bn
      · rw [put_keys]
        split
        · exact h.bn
        · rename_i hn
          rw [List.nodup_append]
          exact ⟨h.bn, by simp, fun a ha b' hb' => by simp at hb'; subst hb'; rintro rfl; exact hn ha⟩
theorem in_dct {st : Sto} {i : Nat} {kvs : List (Key × D)} (h : st[i]? = some (.dct kvs)) (x : Str) : inT st (.str x) (.ref i) = some (valG kvs (.inr x)).isSome := by
  simp [inT, h]
theorem set_loop (R : RunT T gc) (hn : 8 < n) (hb : b.run KS) {sd : Nat} {src : Src} (hsrc : src.grd = none) {rw_ : Row} (hr : rw_ ∈ b.rows) (Q : Out → Sto → Prop) : ∀ (l : List Str) (s : RSt) (said : List Str) (c : Nat) (st : Sto) (kD : D) (kept : Option Wd) (x3 x4 : Option D),
    s.ok b KS c → (∀ p ∈ l, p ∈ b.names) → said.length + 30 * l.length ≤ 1000000 → Mid st0 X st r b s f kD → SaidAt st0 X st f sd said → KeptO st0 X st f kD kept →
    (∀ x3 x4 st1 kD1, (setUpL b rw_.group l s said kept).2.2.2 = none → Mid st0 X st1 r b (setUpL b rw_.group l s said kept).1 f kD1 → SaidAt st0 X st1 f sd (setUpL b rw_.group l s said kept).2.1 → KeptO st0 X st1 f kD1 (setUpL b rw_.group l s said kept).2.2.1 → Q (.nx [some (.ref r), some (.str rw_.path), some (.ref sd), x3, x4]) st1) →
    (∀ o st1 kD1, (setUpL b rw_.group l s said kept).2.2.2 = some o → Mid st0 X st1 r b (setUpL b rw_.group l s said kept).1 f kD1 → SaidAt st0 X st1 f sd (setUpL b rw_.group l s said kept).2.1 → KeptO st0 X st1 f kD1 (setUpL b rw_.group l s said kept).2.2.1 → Q (.rt (.tup [.str o.1, .str o.2])) st1) →
    wpS (loopF src (.one 3) (exSs (cfN T gc n) gc (.cons (.ife (.cmp .In (.var 3) (.fld "Runner" "broken" (.var 0)))
    (.cons (.ret (.tup (.cons (.idx (.idx (.fld "Runner" "broken" (.var 0)) (.var 3)) (.int 0)) (.cons (.var 3) .nil))))
    .nil)
    .nil)
   (.cons (.ife (.cmp .NotIn (.var 3) (.meth "Runner" "live" "Runner.live" 1 (.var 0) .nil))
    (.cons (.asg (.one 4) (.meth "Runner" "up" "Runner.up" 4 (.var 0) (.cons (.var 3) (.cons (.call "group_of" 2 (.cons (.fld "Runner" "book" (.var 0)) (.cons (.var 1) .nil))) (.cons (.var 2) .nil)))))
    (.cons (.ife (.cmp .IsNot (.var 4) .non)
     (.cons (.ret (.var 4))
     .nil)
     .nil)
    .nil))
    .nil)
   .nil))) (l.map .str)) [some (.ref r), some (.str rw_.path), some (.ref sd), x3, x4] st Q
  | [], s, said, c, st, kD, kept, x3, x4, hs, hl, hsl, M, S, Kp, q1, q2 => by
    have hok : src.ok st := by unfold Src.ok; rw [hsrc]; trivial
    show wpS (loopF src _ _ []) _ _ _
    rw [loop_nil hok]
    exact q1 x3 x4 st kD rfl M S Kp
  | x :: l, s, said, c, st, kD, kept, x3, x4, hs, hl, hsl, M, S, Kp, q1, q2 => by
    have hok : src.ok st := by unfold Src.ok; rw [hsrc]; trivial
    have h := M.at_
    have hx := hl x List.mem_cons_self
    have hf := stand_few hb.st hs
    simp only [List.length_cons] at hsl
    rw [List.map_cons, loop_cons hok (ρ1 := [some (.ref r), some (.str rw_.path), some (.ref sd), some (.str x), x4]) rfl]
    simp [h.f_brok, in_dct h.brok, bD_val]
    unfold setUpL at q1 q2
    cases hv : valG s.brok x with
    | some o =>
      rw [hv] at q1 q2
      simp [ix_dct h.brok, bD_val, hv]
      exact q2 (o.1, x) st kD rfl M S Kp
    | none =>
      rw [hv] at q1 q2
      simp [h.m_ok (m := "live") rfl]
      rw [live_at R (by omega) h (by omega)]
      simp
      by_cases hxs : x ∈ s.stand.map (·.1)
      · have hxs' : ∃ q, (x, q) ∈ s.stand := by
          obtain ⟨p, hp, rfl⟩ := List.mem_map.mp hxs
          exact ⟨p.2, hp⟩
        dsimp only at q1 q2
        rw [if_pos hxs] at q1 q2
        simp [hxs']
        exact set_loop R hn hb hsrc hr Q l s said c st kD kept _ _ hs (fun p hp => hl p (List.mem_cons_of_mem _ hp)) (by omega) M S Kp q1 q2
      · have hxs' : ¬ ∃ q, (x, q) ∈ s.stand := fun ⟨q, hq⟩ => hxs (List.mem_map.mpr ⟨_, hq, rfl⟩)
        dsimp only at q1 q2
        rw [if_neg hxs] at q1 q2
        simp [hxs', h.m_ok (m := "up") rfl, h.f_book]
        rw [group_at R.toLookT R.group_of (by omega) hb.ft hb.nd hr]
        have ok1 := upM_ok hb hs (g := rw_.group) hx hxs said kept
        refine wp_go (up_at R (n := n) (by omega) hb hs M Kp S (by omega) (g := rw_.group) hx) fun d st1 ⟨ed, kD1, M1, S1, K1⟩ => ?_
        rcases hu : upM b s said kept x rw_.group with ⟨s1, said1, kept1, o⟩
        rw [hu] at q1 q2 ok1 ed M1 S1 K1
        cases o with
        | some o =>
          subst ed
          simp [oU, D.isNon]
          exact q2 o st1 kD1 rfl M1 S1 K1
        | none =>
          subst ed
          simp [oU, D.isNon]
          exact set_loop R hn hb hsrc hr Q l s1 said1 c st1 kD1 kept1 _ _ ok1.1 (fun p hp => hl p (List.mem_cons_of_mem _ hp)) (by have := ok1.2; simp only [] at this; omega) M1 S1 K1 q1 q2
theorem need_mem {b : Book} (hb : b.stOk) {ws : List Str} (hw : ∀ w ∈ ws, w ∈ b.names) : ∀ x ∈ b.need ws, x ∈ b.names := by
  intro x hx
  unfold Book.need Book.at_ at hx
  simp only [List.mem_append, List.mem_filter] at hx
  rcases hx with (hx | hx) | hx <;> exact clo_mem hb hw x hx.1
theorem addS_nd {f : List Str} (h : f.Nodup) (x : Str) : (addS f x).Nodup := by
  unfold addS
  split
  · exact h
  · rename_i hn
    rw [List.nodup_append]
    exact ⟨h, by simp, fun a ha b hb => by simp at hb; subst hb; rintro rfl; exact hn ha⟩

theorem foldl_nd {α : Type} {F : List Str → α → List Str} (hF : ∀ f x, f.Nodup → (F f x).Nodup) : ∀ (l : List α) (f : List Str), f.Nodup → (l.foldl F f).Nodup
  | [], f, h => h
  | x :: l, f, h => foldl_nd hF l (F f x) (hF f x h)
theorem clos_nd (ss : List Stage) : ∀ (k : Nat) (ws f : List Str), f.Nodup → (clos ss k ws f).Nodup
  | 0, ws, f, h => h
  | k + 1, ws, f, h => foldl_nd (fun f x hf => addS_nd (clos_nd ss k _ f hf) x) ws f h
theorem clo_nd (b : Book) (ws : List Str) : (b.clo ws).Nodup := clos_nd _ _ _ _ List.nodup_nil
theorem need_nd (b : Book) (ws : List Str) : (b.need ws).Nodup := by
  have h := clo_nd b ws
  unfold Book.need Book.at_
  have d : ∀ {i j : Int}, i ≠ j → ∀ a ∈ (b.clo ws).filter (fun x => decide (farN (b.reachOf x) = i)), ∀ c ∈ (b.clo ws).filter (fun x => decide (farN (b.reachOf x) = j)), a ≠ c := by
    rintro i j hij a ha c hc rfl
    have h1 := of_decide_eq_true (List.mem_filter.mp ha).2
    have h2 := of_decide_eq_true (List.mem_filter.mp hc).2
    exact hij (h1.symm.trans h2)
  rw [List.nodup_append, List.nodup_append]
  refine ⟨⟨h.sublist List.filter_sublist, h.sublist List.filter_sublist, d (by decide)⟩, h.sublist List.filter_sublist, fun a ha c hc => ?_⟩
  rcases List.mem_append.mp ha with ha | ha
  · exact d (by decide) a ha c hc
  · exact d (by decide) a ha c hc
theorem need_few {b : Book} (hb : b.stOk) {ws : List Str} (hw : ∀ w ∈ ws, w ∈ b.names) : (b.need ws).length ≤ 12 := by
  have h1 := nodup_len (need_nd b ws) (need_mem hb hw)
  have h2 : b.names.length ≤ 12 := by unfold Book.names; rw [List.length_map]; exact hb.few
  omega
theorem set_up_at (R : RunT T gc) (hn : 21 < n) (hb : b.run KS) {sd : Nat} {rw_ : Row} (hr : rw_ ∈ b.rows) {said : List Str} {c : Nat} {kept : Option Wd} (hs : s.ok b KS c) (hsl : said.length ≤ 900000) (M : Mid st0 X st r b s f kD) (S : SaidAt st0 X st f sd said) (Kp : KeptO st0 X st f kD kept) :
    wp (cfN T gc n "Runner.set_up" [.ref r, .str rw_.path, .ref sd]) st (fun d st1 => d = oU (setUpL b rw_.group (b.need rw_.wants) s said kept).2.2.2 ∧ ∃ kD1, Mid st0 X st1 r b (setUpL b rw_.group (b.need rw_.wants) s said kept).1 f kD1 ∧ SaidAt st0 X st1 f sd (setUpL b rw_.group (b.need rw_.wants) s said kept).2.1 ∧ KeptO st0 X st1 f kD1 (setUpL b rw_.group (b.need rw_.wants) s said kept).2.2.1) noX := by
  obtain ⟨n, rfl⟩ : ∃ k, n = k + 1 := ⟨n - 1, by omega⟩
  have hw := hb.wn rw_ hr
  have few := need_few hb.st hw.1
  rw [w_fn R.set_up]
  simp [k_p_Runner_set_up, M.at_.f_book]
  rw [needs_at R.toNeedT (by omega) hb.st hb.ft hb.nd hr hw.1 hw.2]
  simp [sD, srcQ]
  have hsd := lt_of S.at_
  have drop : ∀ {st1 : Sto} {kD1 : D} {s1 : RSt} {said1 : List Str} {kept1 : Option Wd}, Mid st0 X st1 r b s1 f kD1 → SaidAt st0 X st1 f sd said1 → KeptO st0 X st1 f kD1 kept1 → dropB st st1 → Mid st0 X (st1.take st.length) r b s1 f kD1 ∧ SaidAt st0 X (st1.take st.length) f sd said1 ∧ KeptO st0 X (st1.take st.length) f kD1 kept1 := fun M1 S1 K1 hd =>
    ⟨M.take M1 hd, ⟨by rw [List.getElem?_take_of_lt hsd]; exact S1.at_, S1.own, S1.ne⟩, K1.take (M.at_.smallK Kp.lt M1.at_ hd)⟩
  refine set_loop R (by omega) hb rfl hr _ (b.need rw_.wants) s said c st kD kept none none hs (need_mem hb.st hw.1) (by omega) M S Kp (fun x3 x4 st1 kD1 e M1 S1 K1 => ?_) (fun o st1 kD1 e M1 S1 K1 => ?_)
  · simp
    rw [e]
    exact fnQ_pick (fun i e => by cases e) ⟨rfl, kD1, M1, S1, K1⟩ fun hd => ⟨rfl, kD1, drop M1 S1 K1 hd⟩
  · simp
    rw [e]
    exact fnQ_pick (fun i e => by cases e) ⟨rfl, kD1, M1, S1, K1⟩ fun hd => ⟨rfl, kD1, drop M1 S1 K1 hd⟩
theorem setUpL_ok {b : Book} {KS : List Str} (hb : b.run KS) {g : Str} {c : Nat} : ∀ (l : List Str) (s : RSt) (said : List Str) (kept : Option Wd), s.ok b KS c → (∀ p ∈ l, p ∈ b.names) → (setUpL b g l s said kept).1.ok b KS c ∧ (setUpL b g l s said kept).2.1.length ≤ said.length + 30 * l.length
  | [], s, said, kept, hs, hl => ⟨hs, by simp [setUpL]⟩
  | x :: l, s, said, kept, hs, hl => by
    unfold setUpL
    have hx := hl x List.mem_cons_self
    rw [List.length_cons]
    cases hv : valG s.brok x with
    | some o => exact ⟨hs, by simp only []; omega⟩
    | none =>
      dsimp only
      by_cases hxs : x ∈ s.stand.map (·.1)
      · rw [if_pos hxs]
        have ih := setUpL_ok hb (g := g) l s said kept hs (fun p hp => hl p (List.mem_cons_of_mem _ hp))
        exact ⟨ih.1, by have := ih.2; omega⟩
      · rw [if_neg hxs]
        have ok1 := upM_ok hb hs (g := g) hx hxs said kept
        rcases hu : upM b s said kept x g with ⟨s1, said1, kept1, o⟩
        rw [hu] at ok1
        cases o with
        | some o => exact ⟨ok1.1, by have := ok1.2; simp only [] at this ⊢; omega⟩
        | none =>
          have ih := setUpL_ok hb (g := g) l s1 said1 kept1 ok1.1 (fun p hp => hl p (List.mem_cons_of_mem _ hp))
          exact ⟨ih.1, by have := ih.2; have := ok1.2; simp only [] at this ⊢; omega⟩
end
end TB
set_option Elab.async false
set_option linter.all false
set_option maxRecDepth 100000
set_option maxHeartbeats 4000000
/-! TB36: step, end, run -/
namespace TB
open PySem PySem.Spec L2
theorem rowOf_of {b : Book} (hd : (b.rows.map Row.path).Nodup) {p : Str} (hp : p ∈ b.rows.map Row.path) : ∃ rw_ ∈ b.rows, rw_.path = p ∧ b.rowOf p = rw_ := by
  obtain ⟨rw_, hr, rfl⟩ := List.mem_map.mp hp
  refine ⟨rw_, hr, rfl, ?_⟩
  unfold Book.rowOf
  have h := filter_key Row.path hd hr
  rw [← List.head?_filter, h]; rfl
theorem cut1 {α : Type} (a : α) (l : List α) : cutG (a :: l) (some 1) none = l := by
  simp [cutG, HT.sIx]
theorem at_last {α : Type} (l : List α) (x : α) : atI (l ++ [x]) (-1) = some x := by
  unfold atI ixN
  rw [if_neg (by omega), if_pos (by simp; omega)]
  show (l ++ [x])[(-1 + ((l ++ [x]).length : Int)).toNat]? = _
  have : (-1 + ((l ++ [x]).length : Int)).toNat = l.length := by simp; omega
  rw [this]; simp
/-- the middle of a step: what is told, the runner and what was said behind the deeds -/
def midM (b : Book) (s : RSt) : RSt × List Str × Option Wd × Option (Str × Str) :=
  setUpL b (b.rowOf (s.rest.headD "")).group (b.need (b.rowOf (s.rest.headD "")).wants) (leaveGroup b (b.rowOf (s.rest.headD "")).group { s with rest := s.rest.tail }) [] none
def ssDrop : Nat → Ss → Ss
  | 0, s => s
  | n + 1, .cons _ ss => ssDrop n ss
  | _ + 1, .nil => .nil
theorem clearL_keep (b : Book) (far : Int) (g : Option Str) : ∀ (l : List (Str × Str)) (q : RSt × List Str), (clearL b far g l q).1.share = q.1.share ∧ (clearL b far g l q).1.rest = q.1.rest ∧ (clearL b far g l q).1.brok = q.1.brok ∧ (clearL b far g l q).1.told = q.1.told ∧ (clearL b far g l q).1.over = q.1.over
  | [], q => ⟨rfl, rfl, rfl, rfl, rfl⟩
  | p :: l, q => by
    unfold clearL
    have ih := clearL_keep b far g l (if goes b far g p = true then takeDown b q.1 q.2 p.1 else q)
    by_cases h : goes b far g p = true
    · rw [if_pos h] at ih ⊢; exact ih
    · rw [if_neg h] at ih ⊢; exact ih
theorem clear_keep (b : Book) (far : Int) (g : Option Str) (s : RSt) (said : List Str) : (clear b far g s said).1.share = s.share ∧ (clear b far g s said).1.rest = s.rest ∧ (clear b far g s said).1.brok = s.brok ∧ (clear b far g s said).1.told = s.told ∧ (clear b far g s said).1.over = s.over := clearL_keep b far g _ _
theorem Mid.re {st0 st1 : Sto} {X : List Nat} {r : Nat} {b : Book} {s : RSt} {f : Fp} {kD : D} (M : Mid st0 X st1 r b s f kD) (Y : List Nat) : Mid st1 (r :: f.all ++ Y) st1 r b s f kD :=
  ⟨M.at_, Fr.refl _ _, .inl (by simp), fun i hi => .inl (by simp [hi])⟩
theorem Mid.trans {st0 st1 st2 : Sto} {X : List Nat} {r : Nat} {b : Book} {s s2 : RSt} {f f2 : Fp} {kD kD2 : D} {Y : List Nat} (M : Mid st0 X st1 r b s f kD) (hY : ∀ i ∈ Y, Own st0 X i) (M2 : Mid st1 (r :: f.all ++ Y) st2 r b s2 f2 kD2) : Mid st0 X st2 r b s2 f2 kD2 := by
  have hall : ∀ i ∈ r :: f.all ++ Y, Own st0 X i := by
    intro i hi
    simp only [List.cons_append, List.mem_cons, List.mem_append] at hi
    rcases hi with rfl | hi | hi
    · exact M.r
    · exact M.own i hi
    · exact hY i hi
  refine ⟨M2.at_, ⟨Nat.le_trans M.fr.len M2.fr.len, fun j hj hX => ?_⟩, M.r, fun i hi => ?_⟩
  · rw [M2.fr.same j (Nat.lt_of_lt_of_le hj M.fr.len) (fun z => by
      rcases hall j z with q | q
      · exact hX q
      · omega)]
    exact M.fr.same j hj hX
  · rcases M2.own i hi with q | q
    · exact hall i q
    · exact .inr (Nat.le_trans M.fr.len q)
section
variable {T : Tab} {gc : Str → Option D} {n : Nat} {st st0 : Sto} {X : List Nat} {r : Nat} {b : Book} {s : RSt} {f : Fp} {kD : D} {KS : List Str}
theorem isNon_oU (o : Option (Str × Str)) : (oU o).isNon = o.isNone := by cases o <;> rfl
/-- the last part of a step: clear, the world, the row -/
theorem step_end (R : RunT T gc) (hn : 6 < n) (hb : b.run KS) {c : Nat} {s0 : RSt} {f0 : Fp} {kD0 : D} (M0 : Mid st0 X st r b s0 f0 kD0) {st1 : Sto} (hs : s.ok b KS c) (hc : c ≤ 80000) (M : Mid st0 X st1 r b s f kD) {kept : Wd} (Kp : KeptO st0 X st1 f kD (some kept)) {sd : Nat} {said : List Str} (S : SaidAt st0 X st1 f sd said) (hl : said.length ≤ 800000) {p w : Str} {wh : Wh} {fD : D}
    (hf : fD = .tup [.str w, wh.d]) (P : D → Sto → Prop) (E : Str → Sto → Prop)
    (q : ∀ st2 f2 kD2, Mid st0 X st2 r b { (clear b 0 (some "") s said).1 with now := if s.share then (clear b 0 (some "") s said).1.now else kept, told := (clear b 0 (some "") s said).1.told ++ [(RowT.mk p w wh (clear b 0 (some "") s said).2)] } f2 kD2 → P (RowT.d (RowT.mk p w wh (clear b 0 (some "") s said).2)) st2) :
    wpS (exSs (cfN T gc n) gc (ssDrop 9 k_p_Runner_step.body)) [some (.ref r), some (.str p), some (.ref sd), some fD] st1 (fnQ st P E) := by
  subst hf
  have h := M.at_
  rw [show ssDrop 9 k_p_Runner_step.body = .cons (.expr (.meth "Runner" "clear" "Runner.clear" 4 (.var 0) (.cons (.int 0) (.cons (.str "") (.cons (.var 2) .nil)))))
  (.cons (.ife (.not (.fld "Runner" "is_sharing" (.var 0)))
   (.cons (.fput "Runner" "now" (.var 0) (.fld "Runner" "kept" (.var 0)))
   .nil)
   .nil) (ssDrop 11 k_p_Runner_step.body)) from rfl]
  simp [h.m_ok (m := "clear") rfl]
  have S1 : SaidAt st1 (r :: f.all ++ [sd]) st1 f sd said := ⟨S.at_, .inl (by simp), S.ne⟩
  refine wp_go (clear_at (g := some "") R (n := n) (by omega) hb hs (by omega) (by omega) (M.re [sd]) S1) fun d st2 ⟨_, f2, M2', S2'⟩ => ?_
  have M2 := M.trans (by simp [S.own]) M2'
  obtain ⟨k, rfl, hk⟩ := Kp
  have hkl := lt_of hk.at_
  have hkX : k ∉ r :: f.all ++ [sd] := by
    have n1 := ne_of_get hk.at_ h.ins (by simp)
    have n2 := ne_of_get hk.at_ h.stand (by simp)
    have n3 := ne_of_get hk.at_ h.told (by simp)
    have n4 := ne_of_get hk.at_ h.bad (by simp)
    have n5 := ne_of_get hk.at_ S.at_ (by simp)
    simp [Fp.all]
    exact ⟨n1, hk.n1, n2, hk.n2, n3, n4, n5⟩
  have hk2 : st2[k]? = some (.dct (wD kept)) := by rw [M2'.fr.same k hkl hkX]; exact hk.at_
  have hkf : k ∉ f2.all := fun z => by
    rcases M2'.own k z with q | q
    · exact hkX q
    · omega
  have ck := clear_keep b 0 (some "") s said
  have cok := clear_ok hb (far := 0) (g := some "") (said := said) hs
  have h2 := M2.at_
  have hsa : st2[sd]? = some (.lst ((clear b 0 (some "") s said).2.map .str)) := S2'.at_
  have told : ∀ {st3 : Sto} {s3 : RSt} {f3 : Fp}, Mid st0 X st3 r b s3 f3 (.ref k) → st3[sd]? = some (.lst ((clear b 0 (some "") s said).2.map .str)) → s3.told.length ≤ 1000000 → s3 = { (clear b 0 (some "") s said).1 with now := if s.share then (clear b 0 (some "") s said).1.now else kept } →
      wpS (exSs (cfN T gc n) gc (ssDrop 11 k_p_Runner_step.body)) [some (.ref r), some (.str p), some (.ref sd), some (.tup [.str w, wh.d])] st3 (fnQ st P E) := by
    intro st3 s3 f3 M3 S3 hl3 e3
    have h3 := M3.at_
    simp [ssDrop, k_p_Runner_step, h3.f_told, bt_lst' h3.told]
    rw [w_tuple_ref S3]
    refine ⟨by have := cok.2; simp; omega, ?_⟩
    rw [lst_app h3.told (by simp; omega)]
    have et : s3.told.map RowT.d ++ [D.tup [.str p, .str w, wh.d, .tup ((clear b 0 (some "") s said).2.map .str)]] = (s3.told ++ [(RowT.mk p w wh (clear b 0 (some "") s said).2)]).map RowT.d := by simp [RowT.d, sD]
    rw [et]
    have h4 := h3.setTold (s3.told ++ [(RowT.mk p w wh (clear b 0 (some "") s said).2)])
    have M4 : Mid st0 X (st3.set f3.told (.lst ((s3.told ++ [(RowT.mk p w wh (clear b 0 (some "") s said).2)]).map RowT.d))) r b { s3 with told := s3.told ++ [(RowT.mk p w wh (clear b 0 (some "") s said).2)] } f3 (.ref k) := ⟨h4, M3.fr.set (M3.own _ (by simp [Fp.all])) _, M3.r, M3.own⟩
    have hix : idxT (st3.set f3.told (.lst ((s3.told ++ [(RowT.mk p w wh (clear b 0 (some "") s said).2)]).map RowT.d))) (.ref f3.told) (.int (-1)) = some (RowT.d (RowT.mk p w wh (clear b 0 (some "") s said).2)) := by
      have e4 := h4.told
      simp only [idxT]
      rw [e4]
      show atI (List.map _ (_ ++ _)) (-1) = _
      rw [List.map_append]
      exact at_last _ _
    generalize hst4 : st3.set f3.told (.lst ((s3.told ++ [(RowT.mk p w wh (clear b 0 (some "") s said).2)]).map RowT.d)) = st4 at h4 M4 hix
    simp [h4.f_told, q_negi, hix]
    subst e3
    refine fnQ_pick (fun i e => by cases e) (q _ f3 (.ref k) M4) fun hd => q _ f3 (.ref k) (M0.take M4 hd)
  have htl : (clear b 0 (some "") s said).1.told.length ≤ 1000000 := by rw [ck.2.2.2.1]; have := hs.told; omega
  simp [h2.f_share, ck.1]
  cases hsh : s.share with
  | true =>
    simp
    exact told M2 hsa htl (by simp [hsh])
  | false =>
    simp [h2.f_kept]
    rw [w_fput h2.ins (by simp [insF])]
    have h3 := h2.newNow hk2 (fun z => hkf (by simp [Fp.all, z]))
    have M3 : Mid st0 X (st2.set r (.ins "Runner" (insF b { (clear b 0 (some "") s said).1 with now := kept } { f2 with now := k } (.ref k)))) r b { (clear b 0 (some "") s said).1 with now := kept } { f2 with now := k } (.ref k) := by
      refine ⟨h3, M2.fr.set M2.r _, M2.r, fun i hi => ?_⟩
      have ho := M2.own
      simp only [Fp.all, List.mem_cons, List.not_mem_nil, or_false] at hi ho
      rcases hi with rfl | hi
      · exact hk.own
      · exact ho _ (.inr hi)
    have S3 : (st2.set r (.ins "Runner" (insF b { (clear b 0 (some "") s said).1 with now := kept } { f2 with now := k } (.ref k))))[sd]? = some (.lst ((clear b 0 (some "") s said).2.map .str)) := get_set hsa (Ne.symm (h2.ne_lst hsa).1)
    rw [show fputG "now" (.ref k) (insF b (clear b 0 (some "") s said).1 f2 (.ref k)) = insF b { (clear b 0 (some "") s said).1 with now := kept } { f2 with now := k } (.ref k) from rfl]
    exact told M3 S3 htl (by simp [hsh])
theorem Mid.get {st1 st2 : Sto} {Y : List Nat} {s2 : RSt} {f2 : Fp} {kD2 : D} (M2 : Mid st1 (r :: f.all ++ Y) st2 r b s2 f2 kD2) {j : Nat} (hj : j < st1.length) (hn : j ∉ r :: f.all ++ Y) : st2[j]? = st1[j]? ∧ j ∉ f2.all :=
  ⟨M2.fr.same j hj hn, fun z => by
    rcases M2.own j z with q | q
    · exact hn q
    · omega⟩
/-- what a step comes to behind its deeds -/
def deedsM (u : RSt × List Str × Option Wd × Option (Str × Str)) (ds : List Deed) : RSt × List Str × Str × Wh := match u.2.2.2 with
  | some o => (u.1, u.2.1, o.1, .nm o.2)
  | none => ({ u.1 with now := (doAll u.1.now u.2.1 0 ds).1 }, (doAll u.1.now u.2.1 0 ds).2.1, (doAll u.1.now u.2.1 0 ds).2.2.1, whOf (doAll u.1.now u.2.1 0 ds).2.2.2)
theorem step_mid (R : RunT T gc) (hn : 8 < n) (hb : b.run KS) {c : Nat} {s0 : RSt} {f0 : Fp} {kD0 : D} (M0 : Mid st0 X st r b s0 f0 kD0) {st1 : Sto} {kept : Option Wd} {o : Option (Str × Str)} (hs : s.ok b KS c) (hc : c ≤ 80000) (M : Mid st0 X st1 r b s f kD) (Kp : KeptO st0 X st1 f kD kept) {sd : Nat} {said : List Str} (S : SaidAt st0 X st1 f sd said) (hl : said.length ≤ 700000) {rw_ : Row} (hr : rw_ ∈ b.rows) (P : D → Sto → Prop) (E : Str → Sto → Prop)
    (q : ∀ st2 f2 kD2, Mid st0 X st2 r b { (clear b 0 (some "") (deedsM (s, said, kept, o) rw_.deeds).1 (deedsM (s, said, kept, o) rw_.deeds).2.1).1 with now := if (deedsM (s, said, kept, o) rw_.deeds).1.share then (clear b 0 (some "") (deedsM (s, said, kept, o) rw_.deeds).1 (deedsM (s, said, kept, o) rw_.deeds).2.1).1.now else kept.getD s.now, told := (clear b 0 (some "") (deedsM (s, said, kept, o) rw_.deeds).1 (deedsM (s, said, kept, o) rw_.deeds).2.1).1.told ++ [RowT.mk rw_.path (deedsM (s, said, kept, o) rw_.deeds).2.2.1 (deedsM (s, said, kept, o) rw_.deeds).2.2.2 (clear b 0 (some "") (deedsM (s, said, kept, o) rw_.deeds).1 (deedsM (s, said, kept, o) rw_.deeds).2.1).2] } f2 kD2 → P (RowT.d (RowT.mk rw_.path (deedsM (s, said, kept, o) rw_.deeds).2.2.1 (deedsM (s, said, kept, o) rw_.deeds).2.2.2 (clear b 0 (some "") (deedsM (s, said, kept, o) rw_.deeds).1 (deedsM (s, said, kept, o) rw_.deeds).2.1).2)) st2) :
    wpS (exSs (cfN T gc n) gc (ssDrop 7 k_p_Runner_step.body)) [some (.ref r), some (.str rw_.path), some (.ref sd), some (oU o)] st1 (fnQ st P E) := by
  have h := M.at_
  -- behind the look at what is kept
  have rest : ∀ (st2 : Sto) (kD2 : D), Mid st0 X st2 r b s f kD2 → KeptO st0 X st2 f kD2 (some (kept.getD s.now)) → SaidAt st0 X st2 f sd said →
      wpS (exSs (cfN T gc n) gc (ssDrop 8 k_p_Runner_step.body)) [some (.ref r), some (.str rw_.path), some (.ref sd), some (oU o)] st2 (fnQ st P E) := by
    intro st2 kD2 M2 K2 S2
    have h2 := M2.at_
    rw [show ssDrop 8 k_p_Runner_step.body = .cons (.ife (.cmp .Is (.var 3) .non)
   (.cons (.asg (.one 3) (.call "all_done" 3 (.cons (.fld "Runner" "now" (.var 0)) (.cons (.idx (.call "try_at" 2 (.cons (.fld "Runner" "book" (.var 0)) (.cons (.var 1) .nil))) (.int 4)) (.cons (.var 2) .nil)))))
   .nil)
   .nil) (ssDrop 9 k_p_Runner_step.body) from rfl]
    cases o with
    | some o =>
      simp [oU, D.isNon]
      exact step_end R (by omega) hb M0 hs hc M2 K2 S2 (by omega) (p := rw_.path) (w := o.1) (wh := .nm o.2) rfl P E q
    | none =>
      simp [oU, D.isNon, h2.f_now, h2.f_book]
      rw [try_at_at R.toLookT (by omega) hb.ft hb.nd hr, ix_row4, lk_some]
      have hd := hb.rd rw_ hr
      have hnow := hs.now.len hb.ks
      have hfew := hd.few
      rw [all_done_at R.done R.all_done (by omega) h2.now S2.at_ rw_.deeds (by omega) (by omega)]
      have hne : f.now ≠ sd := fun z => S2.ne (by simp [Fp.all, z])
      have h3 : RunAt (stW st2 f.now (doAll s.now said 0 rw_.deeds).1 sd (doAll s.now said 0 rw_.deeds).2.1) r b { s with now := (doAll s.now said 0 rw_.deeds).1 } f kD2 := (h2.setNow (doAll s.now said 0 rw_.deeds).1).other (j := sd) (.lst ((doAll s.now said 0 rw_.deeds).2.1.map .str)) (h2.ne_lst S2.at_).1 S2.ne
      have F3 : Fr st0 X (stW st2 f.now (doAll s.now said 0 rw_.deeds).1 sd (doAll s.now said 0 rw_.deeds).2.1) := (M2.fr.set (M2.own _ (by simp [Fp.all])) _).set S2.own _
      have S3 : SaidAt st0 X (stW st2 f.now (doAll s.now said 0 rw_.deeds).1 sd (doAll s.now said 0 rw_.deeds).2.1) f sd (doAll s.now said 0 rw_.deeds).2.1 := ⟨stW_s (lt_of S2.at_), S2.own, S2.ne⟩
      have K3 : KeptO st0 X (stW st2 f.now (doAll s.now said 0 rw_.deeds).1 sd (doAll s.now said 0 rw_.deeds).2.1) f kD2 (some (kept.getD s.now)) := (K2.set _ fun k e => (K2.now k e).1).set _ fun k e => by
        refine Ne.symm fun z => ?_
        exact (K2.ne S2.at_ (fun w e => by cases e)) k e z.symm
      simp [whD]
      have hok : ({ s with now := (doAll s.now said 0 rw_.deeds).1 } : RSt).ok b KS c := ⟨okW.all hs.now hd.key, hs.st, hs.sn, hs.br, hs.bn, hs.rest, hs.told, hs.bad⟩
      have hlen := (doAll_len rw_.deeds s.now said 0).2
      exact step_end R (by omega) hb M0 hok hc ⟨h3, F3, M2.r, M2.own⟩ K3 S3 (by omega) (p := rw_.path) (w := (doAll s.now said 0 rw_.deeds).2.2.1) (wh := whOf (doAll s.now said 0 rw_.deeds).2.2.2) (by rw [whOf_d]) P E q
  rw [show ssDrop 7 k_p_Runner_step.body = .cons (.ife (.cmp .Is (.fld "Runner" "kept" (.var 0)) .non)
   (.cons (.fput "Runner" "kept" (.var 0) (.blt .dict (.fld "Runner" "now" (.var 0))))
   .nil)
   .nil) (ssDrop 8 k_p_Runner_step.body) from rfl]
  simp [h.f_kept]
  cases kept with
  | none =>
    have ek : kD = .non := Kp
    subst ek
    simp [D.isNon, h.f_now]
    rw [w_dictD h.now, w_fput (get_push h.ins _) (by simp [insF])]
    have h1 : RunAt ((st1 ++ [MO.dct (wD s.now)]).set r (.ins "Runner" (insF b s f (.ref st1.length)))) r b s f (.ref st1.length) := (h.push [.dct (wD s.now)]).fld rfl rfl rfl rfl rfl
    rw [show fputG "kept" (.ref st1.length) (insF b s f .non) = insF b s f (.ref st1.length) from rfl]
    have hlt := h.lt
    have hrl := lt_of h.ins
    refine rest _ (.ref st1.length) ⟨h1, (M.fr.push _).set M.r _, M.r, M.own⟩ ⟨st1.length, rfl, ?_, ?_, ?_, .inr M.fr.len⟩ ⟨get_set (get_push S.at_ _) (Ne.symm (h.ne_lst S.at_).1), S.own, S.ne⟩
    · exact get_set (by simp) (Nat.ne_of_lt hrl)
    · have := hlt f.now (by simp [Fp.all]); omega
    · have := hlt f.brok (by simp [Fp.all]); omega
  | some w =>
    obtain ⟨k, ek, hk⟩ := Kp
    subst ek
    simp [D.isNon]
    exact rest st1 (.ref k) M ⟨k, rfl, hk⟩ S
theorem stepM_eq (b : Book) (s : RSt) {p : Str} {l : List Str} (hr : s.rest = p :: l) : stepM b s =
    (let u := setUpL b (b.rowOf p).group (b.need (b.rowOf p).wants) (leaveGroup b (b.rowOf p).group { s with rest := l }) [] none
     let v := deedsM u (b.rowOf p).deeds
     let c := clear b 0 (some "") v.1 v.2.1
     ({ c.1 with now := if s.share then c.1.now else u.2.2.1.getD u.1.now, told := c.1.told ++ [⟨p, v.2.2.1, v.2.2.2, c.2⟩] }, ⟨p, v.2.2.1, v.2.2.2, c.2⟩)) := by
  unfold stepM deedsM
  rw [hr]
  rfl
theorem setUpL_share (b : Book) (g : Str) : ∀ (l : List Str) (s : RSt) (said : List Str) (kept : Option Wd), (setUpL b g l s said kept).1.share = s.share ∧ (setUpL b g l s said kept).1.rest = s.rest ∧ (setUpL b g l s said kept).1.told = s.told ∧ (setUpL b g l s said kept).1.bad = s.bad ∧ (setUpL b g l s said kept).1.over = s.over
  | [], s, said, kept => ⟨rfl, rfl, rfl, rfl, rfl⟩
  | x :: l, s, said, kept => by
    unfold setUpL
    cases valG s.brok x with
    | some o => exact ⟨rfl, rfl, rfl, rfl, rfl⟩
    | none =>
      dsimp only
      by_cases h : x ∈ s.stand.map (·.1)
      · rw [if_pos h]; exact setUpL_share b g l s said kept
      · rw [if_neg h]
        have hu : (upM b s said kept x g).1.share = s.share ∧ (upM b s said kept x g).1.rest = s.rest ∧ (upM b s said kept x g).1.told = s.told ∧ (upM b s said kept x g).1.bad = s.bad ∧ (upM b s said kept x g).1.over = s.over := by
          unfold upM; dsimp only; split <;> exact ⟨rfl, rfl, rfl, rfl, rfl⟩
        rcases e : upM b s said kept x g with ⟨s1, said1, kept1, o⟩
        rw [e] at hu
        cases o with
        | some o => exact hu
        | none =>
          have ih := setUpL_share b g l s1 said1 kept1
          exact ⟨ih.1.trans hu.1, ih.2.1.trans hu.2.1, ih.2.2.1.trans hu.2.2.1, ih.2.2.2.1.trans hu.2.2.2.1, ih.2.2.2.2.trans hu.2.2.2.2⟩
theorem leaveGroup_keep (b : Book) (g : Str) (s : RSt) : (leaveGroup b g s).share = s.share ∧ (leaveGroup b g s).rest = s.rest ∧ (leaveGroup b g s).told = s.told ∧ (leaveGroup b g s).over = s.over := by
  have := clear_keep b 1 (some g) { s with brok := s.brok.filter fun p => !lostB b g p } []
  exact ⟨this.1, this.2.1, this.2.2.2.1, this.2.2.2.2⟩
theorem deedsM_share (u : RSt × List Str × Option Wd × Option (Str × Str)) (ds : List Deed) : (deedsM u ds).1.share = u.1.share ∧ (deedsM u ds).1.rest = u.1.rest ∧ (deedsM u ds).1.told = u.1.told ∧ (deedsM u ds).1.bad = u.1.bad ∧ (deedsM u ds).1.over = u.1.over ∧ (deedsM u ds).1.stand = u.1.stand ∧ (deedsM u ds).1.brok = u.1.brok := by
  unfold deedsM
  cases u.2.2.2 <;> exact ⟨rfl, rfl, rfl, rfl, rfl, rfl, rfl⟩
end
end TB
set_option Elab.async false
set_option linter.all false
set_option maxRecDepth 100000
set_option maxHeartbeats 4000000
/-! TB37: step, end, a new runner, run -/
namespace TB
open PySem PySem.Spec L2
section
variable {T : Tab} {gc : Str → Option D} {n : Nat} {st st0 : Sto} {X : List Nat} {r : Nat} {b : Book} {s : RSt} {f : Fp} {kD : D} {KS : List Str}
theorem eqT_nil {st : Sto} (l : List Str) : eqT st (sD l) (.tup []) = some (decide (l = [])) := by
  have := eqT_sD (st := st) l []
  exact this
theorem step_at (R : RunT T gc) (hn : 22 < n) (hb : b.run KS) {c : Nat} (hs : s.ok b KS c) (hc : c ≤ 70000) (M : Mid st0 X st r b s f kD) {p : Str} {l : List Str} (hr : s.rest = p :: l) :
    wp (cfN T gc n "Runner.step" [.ref r]) st (fun d st1 => d = (stepM b s).2.d ∧ ∃ f1 kD1, Mid st0 X st1 r b (stepM b s).1 f1 kD1) noX := by
  obtain ⟨n, rfl⟩ : ∃ k, n = k + 1 := ⟨n - 1, by omega⟩
  obtain ⟨rw_, hrw, hpath, hrow⟩ := rowOf_of hb.nd (hs.rest p (by rw [hr]; simp))
  have h := M.at_
  have h1 : RunAt (st.set r (.ins "Runner" (insF b { s with rest := l } f kD))) r b { s with rest := l } f kD := h.fld rfl rfl rfl rfl rfl
  have hs1 : ({ s with rest := l } : RSt).ok b KS c := ⟨hs.now, hs.st, hs.sn, hs.br, hs.bn, fun q hq => hs.rest q (by rw [hr]; exact List.mem_cons_of_mem _ hq), hs.told, hs.bad⟩
  rw [w_fn' R.step (body := .cons (.ife (.cmp .Eq (.fld "Runner" "rest" (.var 0)) (.tup .nil))
   (.cons (.raise "NoStep")
   .nil)
   .nil)
  (.cons (.asg (.one 1) (.idx (.fld "Runner" "rest" (.var 0)) (.int 0)))
  (.cons (.fput "Runner" "rest" (.var 0) (.slc true (.fld "Runner" "rest" (.var 0)) (.some (.int 1)) .none))
  (.cons (.asg (.one 2) (.lst true .nil))
  (.cons (.expr (.meth "Runner" "leave_group" "Runner.leave_group" 2 (.var 0) (.cons (.call "group_of" 2 (.cons (.fld "Runner" "book" (.var 0)) (.cons (.var 1) .nil))) .nil)))
  (.cons (.fput "Runner" "kept" (.var 0) .non)
  (.cons (.asg (.one 3) (.meth "Runner" "set_up" "Runner.set_up" 3 (.var 0) (.cons (.var 1) (.cons (.var 2) .nil))))
  (ssDrop 7 k_p_Runner_step.body)))))))) rfl]
  simp [h.f_rest, eqT_nil, hr, k_p_Runner_step]
  simp [sD, cut1]
  rw [w_fput h.ins (by simp [insF])]
  rw [show fputG "rest" (.tup (l.map D.str)) (insF b s f kD) = insF b { s with rest := l } f kD from rfl]
  have M1 : Mid st0 X (st.set r (.ins "Runner" (insF b { s with rest := l } f kD))) r b { s with rest := l } f kD := ⟨h1, M.fr.set M.r _, M.r, M.own⟩
  generalize hst1 : st.set r (.ins "Runner" (insF b { s with rest := l } f kD)) = st1 at h1 M1
  have M2 : Mid st0 X (st1 ++ [MO.lst []]) r b { s with rest := l } f kD := ⟨h1.push _, M1.fr.push _, M1.r, M1.own⟩
  have h2 := M2.at_
  have hsd : (st1 ++ [MO.lst []])[st1.length]? = some (.lst []) := by simp
  have hsf : st1.length ∉ f.all := fun z => by have := h1.lt _ z; omega
  have hsr : st1.length ≠ r := fun z => by have := lt_of h1.ins; omega
  simp [h2.m_ok (m := "leave_group") rfl, h2.f_book]
  rw [← hpath, group_at R.toLookT R.group_of (by omega) hb.ft hb.nd hrw]
  refine wp_go (leave_group_at (st0 := st1 ++ [MO.lst []]) (X := r :: f.all ++ []) (g := rw_.group) R (n := n) (by omega) hb hs1 (by omega) (M2.re [])) fun d st3 ⟨_, f3, M3'⟩ => ?_
  have M3 := M2.trans (by simp) M3'
  obtain ⟨g1, g2⟩ := M3'.get (j := st1.length) (by simp) (by simp; exact ⟨hsr, hsf⟩)
  rw [hsd] at g1
  have hs3 := leaveGroup_ok hb hs1 rw_.group
  have h3 := M3.at_
  rw [w_fput h3.ins (by simp [insF])]
  rw [show fputG "kept" .non (insF b (leaveGroup b rw_.group { s with rest := l }) f3 kD) = insF b (leaveGroup b rw_.group { s with rest := l }) f3 .non from rfl]
  have h4 : RunAt (st3.set r (.ins "Runner" (insF b (leaveGroup b rw_.group { s with rest := l }) f3 .non))) r b (leaveGroup b rw_.group { s with rest := l }) f3 .non := h3.fld rfl rfl rfl rfl rfl
  have M4 : Mid st0 X (st3.set r (.ins "Runner" (insF b (leaveGroup b rw_.group { s with rest := l }) f3 .non))) r b (leaveGroup b rw_.group { s with rest := l }) f3 .non := ⟨h4, M3.fr.set M3.r _, M3.r, M3.own⟩
  have S4 : SaidAt st0 X (st3.set r (.ins "Runner" (insF b (leaveGroup b rw_.group { s with rest := l }) f3 .non))) f3 st1.length [] := ⟨get_set g1 (Ne.symm hsr), .inr M1.fr.len, g2⟩
  generalize hst4 : st3.set r (.ins "Runner" (insF b (leaveGroup b rw_.group { s with rest := l }) f3 .non)) = st4 at h4 M4 S4
  simp [h4.m_ok (m := "set_up") rfl]
  refine wp_go (set_up_at R (n := n) (by omega) hb hrw hs3 (by simp) M4 S4 (kept := none) rfl) fun d st5 ⟨ed, kD5, M5, S5, K5⟩ => ?_
  subst ed
  have few := need_few hb.st (hb.wn rw_ hrw).1
  have hok5 := setUpL_ok hb (g := rw_.group) (b.need rw_.wants) (leaveGroup b rw_.group { s with rest := l }) [] none hs3 (need_mem hb.st (hb.wn rw_ hrw).1)
  have hsh : (setUpL b rw_.group (b.need rw_.wants) (leaveGroup b rw_.group { s with rest := l }) [] none).1.share = s.share := (setUpL_share ..).1.trans (leaveGroup_keep ..).1
  refine step_mid R (by omega) hb M hok5.1 (by omega) M5 K5 S5 (by have := hok5.2; simp at this; omega) hrw _ _ fun st6 f6 kD6 M6 => ?_
  have es := stepM_eq b s hr
  rw [hrow] at es
  have ev : deedsM (setUpL b rw_.group (b.need rw_.wants) (leaveGroup b rw_.group { s with rest := l }) [] none) rw_.deeds = deedsM ((setUpL b rw_.group (b.need rw_.wants) (leaveGroup b rw_.group { s with rest := l }) [] none).1, (setUpL b rw_.group (b.need rw_.wants) (leaveGroup b rw_.group { s with rest := l }) [] none).2.1, (setUpL b rw_.group (b.need rw_.wants) (leaveGroup b rw_.group { s with rest := l }) [] none).2.2.1, (setUpL b rw_.group (b.need rw_.wants) (leaveGroup b rw_.group { s with rest := l }) [] none).2.2.2) rw_.deeds := rfl
  rw [(deedsM_share _ _).1, ← ev, hsh] at M6
  rw [es, ← ev, ← hpath]
  exact ⟨rfl, f6, kD6, M6⟩
theorem end_at (R : RunT T gc) (hn : 7 < n) (hb : b.run KS) {c : Nat} (hs : s.ok b KS c) (hc : c ≤ 70000) (M : Mid st0 X st r b s f kD) (ho : s.over = false) :
    wp (cfN T gc n "Runner.end" [.ref r]) st (fun d st1 => d = .non ∧ ∃ f1 kD1, Mid st0 X st1 r b (endM b s) f1 kD1) noX := by
  obtain ⟨n, rfl⟩ : ∃ k, n = k + 1 := ⟨n - 1, by omega⟩
  have h := M.at_
  have h1 : RunAt (st.set r (.ins "Runner" (insF b { s with over := true } f kD))) r b { s with over := true } f kD := h.fld rfl rfl rfl rfl rfl
  have M1 : Mid st0 X (st.set r (.ins "Runner" (insF b { s with over := true } f kD))) r b { s with over := true } f kD := ⟨h1, M.fr.set M.r _, M.r, M.own⟩
  rw [w_fn R.end_]
  simp [k_p_Runner_end, h.f_over, ho]
  rw [w_fput h.ins (by simp [insF])]
  rw [show fputG "is_over" (.bl true) (insF b s f kD) = insF b { s with over := true } f kD from rfl]
  generalize st.set r (.ins "Runner" (insF b { s with over := true } f kD)) = st1 at h1 M1
  rw [w_fput h1.ins (by simp [insF])]
  rw [show fputG "rest" (.tup []) (insF b { s with over := true } f kD) = insF b { s with over := true, rest := [] } f kD from rfl]
  have h2 : RunAt (st1.set r (.ins "Runner" (insF b { s with over := true, rest := [] } f kD))) r b { s with over := true, rest := [] } f kD := h1.fld rfl rfl rfl rfl rfl
  have M2 : Mid st0 X (st1.set r (.ins "Runner" (insF b { s with over := true, rest := [] } f kD))) r b { s with over := true, rest := [] } f kD := ⟨h2, M1.fr.set M1.r _, M1.r, M1.own⟩
  generalize st1.set r (.ins "Runner" (insF b { s with over := true, rest := [] } f kD)) = st2 at h2 M2
  have hs2 : ({ s with over := true, rest := [] } : RSt).ok b KS c := ⟨hs.now, hs.st, hs.sn, hs.br, hs.bn, (fun q hq => absurd hq List.not_mem_nil), hs.told, hs.bad⟩
  simp [h2.m_ok (m := "clear") rfl]
  have M3 : Mid st0 X (st2 ++ [MO.lst []]) r b { s with over := true, rest := [] } f kD := ⟨h2.push _, M2.fr.push _, M2.r, M2.own⟩
  have S3 : SaidAt st0 X (st2 ++ [MO.lst []]) f st2.length [] := ⟨by simp, .inr M2.fr.len, fun z => by have := h2.lt _ z; omega⟩
  refine wp_go (clear_at (g := none) R (n := n) (by omega) hb hs2 (by omega) (by simp) M3 S3) fun d st4 ⟨_, f4, M4, S4⟩ => ?_
  exact fnQ_pickN ⟨rfl, f4, kD, M4⟩ fun hd => ⟨rfl, f4, kD, M.take M4 hd⟩
/-! ### a new runner -/
def newFp (r : Nat) : Fp := ⟨r + 1, r + 2, r + 3, r + 4, r + 5⟩
def newSt (st : Sto) (b : Book) (order : List Str) (sh : Bool) : Sto := st ++ [.ins "Runner" (insF b (freshM order sh) (newFp st.length) .non), .dct [], .lst [], .dct [], .lst [], .lst []]
theorem new_at (st : Sto) (b : Book) (order : List Str) (sh : Bool) : RunAt (newSt st b order sh) st.length b (freshM order sh) (newFp st.length) .non := by
  refine ⟨?_, ?_, ?_, ?_, ?_, ?_, ?_, ?_, ?_, ?_⟩ <;> simp [newSt, newFp, freshM, wD, bD]
theorem fputG_le {τ : Type} {f : Str} {y : τ} : ∀ {fs : List (Str × τ)} {k : Nat}, fs.length ≤ k → (fputG f y fs).length ≤ k + 1
  | [], k, h => by simp [fputG]
  | (g, x) :: fs, k, h => by
    unfold fputG
    rw [List.length_cons] at h
    split
    · simp; omega
    · obtain ⟨k', rfl⟩ : ∃ k', k = k' + 1 := ⟨k - 1, by omega⟩
      have := fputG_le (f := f) (y := y) (fs := fs) (k := k') (by omega)
      simp; omega
theorem fput_end {st : Sto} {f : Str} {y : D} {fs : List (Str × D)} {l : List MO} {P : Unit → Sto → Prop} {E : Str → Sto → Prop} (hl : fs.length < 1000) : wp (fputT "Runner" f (.ref st.length) y) (st ++ .ins "Runner" fs :: l) P E = P () (st ++ .ins "Runner" (fputG f y fs) :: l) := by
  rw [w_fput (fs := fs) (by simp) hl]
  simp
theorem init_at (R : RunT T gc) (hn : 0 < n) (st : Sto) (b : Book) (order : List Str) (sh : Bool) (P : D → Sto → Prop) (E : Str → Sto → Prop) :
    wp (cfN T gc n "Runner.__init__" [.ref st.length, b.d, sD order, .bl sh]) (st ++ [.ins "Runner" []]) P E = P .non (newSt st b order sh) := by
  refine wp_det ?_ P E
  obtain ⟨n, rfl⟩ : ∃ k, n = k + 1 := ⟨n - 1, by omega⟩
  rw [w_fn R.init]
  simp [k_p_Runner_init, sD]
  rw [fput_end (by simp), fput_end (Nat.lt_of_le_of_lt (fputG_le (Nat.le_refl 0)) (by decide)), fput_end (Nat.lt_of_le_of_lt (fputG_le (fputG_le (Nat.le_refl 0))) (by decide))]
  simp only [List.append_assoc, List.cons_append, List.nil_append]
  rw [fput_end (Nat.lt_of_le_of_lt (fputG_le (fputG_le (fputG_le (Nat.le_refl 0)))) (by decide))]
  simp only [List.append_assoc, List.cons_append, List.nil_append]
  rw [fput_end (Nat.lt_of_le_of_lt (fputG_le (fputG_le (fputG_le (fputG_le (Nat.le_refl 0))))) (by decide))]
  simp only [List.append_assoc, List.cons_append, List.nil_append]
  rw [fput_end (Nat.lt_of_le_of_lt (fputG_le (fputG_le (fputG_le (fputG_le (fputG_le (Nat.le_refl 0)))))) (by decide))]
  simp only [List.append_assoc, List.cons_append, List.nil_append]
  rw [fput_end (Nat.lt_of_le_of_lt (fputG_le (fputG_le (fputG_le (fputG_le (fputG_le (fputG_le (Nat.le_refl 0))))))) (by decide))]
  simp only [List.append_assoc, List.cons_append, List.nil_append]
  rw [fput_end (Nat.lt_of_le_of_lt (fputG_le (fputG_le (fputG_le (fputG_le (fputG_le (fputG_le (fputG_le (Nat.le_refl 0)))))))) (by decide)), fput_end (Nat.lt_of_le_of_lt (fputG_le (fputG_le (fputG_le (fputG_le (fputG_le (fputG_le (fputG_le (fputG_le (Nat.le_refl 0))))))))) (by decide)), fput_end (Nat.lt_of_le_of_lt (fputG_le (fputG_le (fputG_le (fputG_le (fputG_le (fputG_le (fputG_le (fputG_le (fputG_le (Nat.le_refl 0)))))))))) (by decide))]
  have e : ∀ x1 x2 x3 x4 x5 : Nat, fputG "is_over" (.bl false) (fputG "kept" .non (fputG "bad_downs" (.ref x5) (fputG "told" (.ref x4) (fputG "broken" (.ref x3) (fputG "standing" (.ref x2) (fputG "now" (.ref x1) (fputG "is_sharing" (.bl sh) (fputG "rest" (.tup (order.map D.str)) (fputG "book" b.d []))))))))) = insF b (freshM order sh) ⟨x1, x2, x3, x4, x5⟩ .non := fun _ _ _ _ _ => rfl
  rw [e]
  have e2 : st ++ [MO.ins "Runner" (insF b (freshM order sh) (newFp st.length) .non), .dct [], .lst [], .dct [], .lst [], .lst []] = newSt st b order sh := rfl
  simp only [List.length_append, List.length_cons, List.length_nil]
  refine fnQ_pickN ⟨rfl, e2⟩ fun hd => ?_
  exfalso
  rcases hd with hd | hd
  · have := congrArg (fun l : Sto => l[st.length]?) hd
    simp [insF] at this
  · have := hd (MO.ins "Runner" (insF b (freshM order sh) (newFp st.length) .non)) (by
      refine List.mem_of_getElem? (i := st.length) ?_
      rw [List.getElem?_take_of_lt (by simp)]
      simp [newFp])
    simp [MO.rlt, insF, D.rlts, D.rlt, newFp] at this
/-! ### what holds behind each step -/
theorem upM_kept {b : Book} {KS : List Str} {s : RSt} (h : okW KS s.now) {said : List Str} {kept : Option Wd} (hk : ∀ w, kept = some w → okW KS w) (x g : Str) : ∀ w, (upM b s said kept x g).2.2.1 = some w → okW KS w := by
  intro w hw
  unfold upM at hw
  dsimp only at hw
  have e : (if b.reachOf x = "each" ∧ kept = none then some s.now else kept) = some w := by
    split at hw <;> exact hw
  split at e
  · cases e; exact h
  · exact hk w e
theorem setUpL_kept {b : Book} {KS : List Str} (hb : b.run KS) {g : Str} {c : Nat} : ∀ (l : List Str) (s : RSt) (said : List Str) (kept : Option Wd), s.ok b KS c → (∀ p ∈ l, p ∈ b.names) → (∀ w, kept = some w → okW KS w) → ∀ w, (setUpL b g l s said kept).2.2.1 = some w → okW KS w
  | [], s, said, kept, hs, hl, hk => hk
  | x :: l, s, said, kept, hs, hl, hk => by
    unfold setUpL
    have hx := hl x List.mem_cons_self
    cases hv : valG s.brok x with
    | some o => exact hk
    | none =>
      dsimp only
      by_cases hxs : x ∈ s.stand.map (·.1)
      · rw [if_pos hxs]
        exact setUpL_kept hb l s said kept hs (fun p hp => hl p (List.mem_cons_of_mem _ hp)) hk
      · rw [if_neg hxs]
        have ok1 := upM_ok hb hs (g := g) hx hxs said kept
        have k1 := upM_kept (b := b) hs.now (said := said) hk x g
        rcases hu : upM b s said kept x g with ⟨s1, said1, kept1, o⟩
        rw [hu] at ok1 k1
        cases o with
        | some o => exact k1
        | none => exact setUpL_kept hb l s1 said1 kept1 ok1.1 (fun p hp => hl p (List.mem_cons_of_mem _ hp)) k1
theorem ok_mono {b : Book} {KS : List Str} {c c' : Nat} {s : RSt} (h : s.ok b KS c) (hc : c ≤ c') : s.ok b KS c' := ⟨h.now, h.st, h.sn, h.br, h.bn, h.rest, by have := h.told; omega, by have := h.bad; omega⟩
theorem deedsM_ok {b : Book} {KS : List Str} {c : Nat} {u : RSt × List Str × Option Wd × Option (Str × Str)} (h : u.1.ok b KS c) {ds : List Deed} (hd : okD KS ds) : (deedsM u ds).1.ok b KS c := by
  unfold deedsM
  cases u.2.2.2 with
  | some o => exact h
  | none => exact ⟨okW.all h.now hd.key, h.st, h.sn, h.br, h.bn, h.rest, h.told, h.bad⟩
theorem stepM_ok {b : Book} {KS : List Str} (hb : b.run KS) {c : Nat} {s : RSt} (hs : s.ok b KS c) {p : Str} {l : List Str} (hr : s.rest = p :: l) : (stepM b s).1.ok b KS (c + 25) ∧ (stepM b s).1.rest = l ∧ (stepM b s).1.share = s.share ∧ (stepM b s).1.over = s.over ∧ (stepM b s).1.told = s.told ++ [(stepM b s).2] ∧ (stepM b s).2.path = p := by
  obtain ⟨rw_, hrw, hpath, hrow⟩ := rowOf_of hb.nd (hs.rest p (by rw [hr]; simp))
  rw [stepM_eq b s hr, hrow]
  have hs1 : ({ s with rest := l } : RSt).ok b KS c := ⟨hs.now, hs.st, hs.sn, hs.br, hs.bn, fun q hq => hs.rest q (by rw [hr]; exact List.mem_cons_of_mem _ hq), hs.told, hs.bad⟩
  have hs3 := leaveGroup_ok hb hs1 rw_.group
  have hw := (hb.wn rw_ hrw).1
  have hok5 := (setUpL_ok hb (g := rw_.group) (b.need rw_.wants) (leaveGroup b rw_.group { s with rest := l }) [] none hs3 (need_mem hb.st hw)).1
  have hk5 := setUpL_kept hb (g := rw_.group) (b.need rw_.wants) (leaveGroup b rw_.group { s with rest := l }) [] none hs3 (need_mem hb.st hw) (fun w e => by cases e)
  have sh5 := setUpL_share b rw_.group (b.need rw_.wants) (leaveGroup b rw_.group { s with rest := l }) [] none
  have lk := leaveGroup_keep b rw_.group { s with rest := l }
  dsimp only
  generalize setUpL b rw_.group (b.need rw_.wants) (leaveGroup b rw_.group { s with rest := l }) [] none = u at hok5 hk5 sh5
  have hok6 := deedsM_ok hok5 (hb.rd rw_ hrw)
  have sh6 := deedsM_share u rw_.deeds
  generalize deedsM u rw_.deeds = v at hok6 sh6
  have hok7 := (clear_ok hb (far := 0) (g := some "") (said := v.2.1) hok6).1
  have sh7 := clear_keep b 0 (some "") v.1 v.2.1
  generalize clear b 0 (some "") v.1 v.2.1 = z at hok7 sh7
  have et : z.1.told = s.told := by rw [sh7.2.2.2.1, sh6.2.2.1, sh5.2.2.1, lk.2.2.1]
  have er : z.1.rest = l := by rw [sh7.2.1, sh6.2.1, sh5.2.1, lk.2.1]
  refine ⟨⟨?_, hok7.st, hok7.sn, hok7.br, hok7.bn, hok7.rest, ?_, ?_⟩, er, ?_, ?_, ?_, rfl⟩
  · show okW KS (if s.share = true then z.1.now else u.2.2.1.getD u.1.now)
    split
    · exact hok7.now
    · cases hu : u.2.2.1 with
      | none => exact hok5.now
      | some w => exact hk5 w hu
  · show (z.1.told ++ [_]).length ≤ _
    rw [et]; have := hs.told; simp; omega
  · have := hok7.bad; show z.1.bad.length ≤ _; omega
  · show z.1.share = _
    rw [sh7.1, sh6.1, sh5.1, lk.1]
  · show z.1.over = _
    rw [sh7.2.2.2.2, sh6.2.2.2.2.1, sh5.2.2.2.2, lk.2.2.2]
  · show z.1.told ++ [_] = _
    rw [et]
theorem endM_ok {b : Book} {KS : List Str} (hb : b.run KS) {c : Nat} {s : RSt} (hs : s.ok b KS c) : (endM b s).ok b KS (c + 12) ∧ (endM b s).told = s.told ∧ (endM b s).rest = [] ∧ (endM b s).over = true := by
  have hs2 : ({ s with over := true, rest := [] } : RSt).ok b KS c := ⟨hs.now, hs.st, hs.sn, hs.br, hs.bn, (fun q hq => absurd hq List.not_mem_nil), hs.told, hs.bad⟩
  have := clear_keep b 2 none { s with over := true, rest := [] } []
  exact ⟨(clear_ok hb hs2).1, this.2.2.2.1, this.2.1, this.2.2.2.2⟩
theorem fresh_ok {b : Book} {KS : List Str} {order : List Str} {sh : Bool} (ho : ∀ p ∈ order, p ∈ b.rows.map Row.path) : (freshM order sh).ok b KS 0 :=
  ⟨⟨fun p hp => absurd hp List.not_mem_nil, List.nodup_nil⟩, fun p hp => absurd hp List.not_mem_nil, List.nodup_nil, fun p hp => absurd hp List.not_mem_nil, List.nodup_nil, ho, Nat.le_refl _, Nat.le_refl _⟩
/-! ### run -/
def stepsM (b : Book) : Nat → RSt → RSt
  | 0, s => s
  | k + 1, s => stepsM b k (stepM b s).1
def runM (b : Book) (order : List Str) (sh : Bool) : RSt := endM b (stepsM b order.length (freshM order sh))
theorem rltsM {n : Nat} {α : Type} {g : α → D} (h : ∀ x, (g x).rlt n = true) : ∀ l : List α, D.rlts n (l.map g) = true
  | [] => rfl
  | x :: l => by simp only [List.map_cons, D.rlts, h x, rltsM h l]; rfl
theorem RowT.rlt (n : Nat) (t : RowT) : t.d.rlt n = true := by
  cases t with
  | mk p w wh s =>
    have : D.rlts n (s.map D.str) = true := rltsM (fun x => rfl) s
    cases wh <;> simp [RowT.d, D.rlt, D.rlts, Wh.d, sD, this]
def resD (s : RSt) : D := .tup [.tup (s.told.map RowT.d), sD s.bad, .tup ((worldM s.now).map nnD)]
theorem resD_rlt (n : Nat) (s : RSt) : (resD s).rlt n = true := by
  have h1 := rltsM (n := n) (RowT.rlt n) s.told
  have h2 : D.rlts n (s.bad.map D.str) = true := rltsM (fun x => rfl) s.bad
  have h3 : D.rlts n ((worldM s.now).map nnD) = true := rltsM (fun x => rfl) _
  simp [resD, D.rlt, D.rlts, sD, h1, h2, h3]
theorem stepsM_ok {b : Book} {KS : List Str} (hb : b.run KS) : ∀ (k : Nat) {c : Nat} {s : RSt}, s.ok b KS c → k ≤ s.rest.length → (stepsM b k s).ok b KS (c + 25 * k) ∧ (stepsM b k s).rest = s.rest.drop k ∧ (stepsM b k s).share = s.share ∧ (stepsM b k s).over = s.over
  | 0, c, s, hs, hk => ⟨hs, rfl, rfl, rfl⟩
  | k + 1, c, s, hs, hk => by
    cases hr : s.rest with
    | nil => rw [hr] at hk; simp at hk
    | cons p l =>
      have h1 := stepM_ok hb hs hr
      have ih := stepsM_ok hb k h1.1 (by rw [h1.2.1]; rw [hr] at hk; simpa using hk)
      refine ⟨ok_mono ih.1 (by omega), ?_, ih.2.2.1.trans h1.2.2.1, ih.2.2.2.trans h1.2.2.2.1⟩
      show (stepsM b k (stepM b s).1).rest = _
      rw [ih.2.1, h1.2.1]; rfl
theorem run_loop (R : RunT T gc) (hn : 22 < n) (hb : b.run KS) {st0 : Sto} {X : List Nat} {a1 a2 a3 : Option D} (Q : Out → Sto → Prop) : ∀ (k c : Nat) (s : RSt) (st : Sto) (f : Fp) (kD : D) (m : Nat), s.rest.length = k → s.ok b KS c → c + 25 * k ≤ 70000 → k < m → Mid st0 X st r b s f kD →
    (∀ st1 f1 kD1, Mid st0 X st1 r b (stepsM b k s) f1 kD1 → Q (.nx [a1, a2, a3, some (.ref r)]) st1) →
    wpS (loopW (tst (cfN T gc n) gc (.cmp .NotEq (.meth "Runner" "left" "Runner.left" 1 (.var 3) .nil) (.tup .nil))) (exSs (cfN T gc n) gc (.cons (.expr (.meth "Runner" "step" "Runner.step" 1 (.var 3) .nil)) .nil)) m) [a1, a2, a3, some (.ref r)] st Q
  | 0, c, s, st, f, kD, m, hk, hs, hc, hm, M, q => by
    obtain ⟨m, rfl⟩ : ∃ j, m = j + 1 := ⟨m - 1, by omega⟩
    have hr : s.rest = [] := List.eq_nil_of_length_eq_zero hk
    rw [loopW_stop]
    simp [M.at_.m_ok (m := "left") rfl]
    rw [left_at R (by omega) M.at_]
    simp [eqT_nil, hr]
    exact q st f kD M
  | k + 1, c, s, st, f, kD, m, hk, hs, hc, hm, M, q => by
    obtain ⟨m, rfl⟩ : ∃ j, m = j + 1 := ⟨m - 1, by omega⟩
    cases hr : s.rest with
    | nil => rw [hr] at hk; simp at hk
    | cons p l =>
      have h1 := stepM_ok hb hs hr
      rw [loopW_stop]
      simp [M.at_.m_ok (m := "left") rfl]
      rw [left_at R (by omega) M.at_]
      simp [eqT_nil, hr, M.at_.m_ok (m := "step") rfl]
      refine wp_go (step_at R (n := n) hn hb hs (by omega) M hr) fun d st1 ⟨_, f1, kD1, M1⟩ => ?_
      exact run_loop R hn hb Q k (c + 25) (stepM b s).1 st1 f1 kD1 m (by rw [h1.2.1]; rw [hr] at hk; simpa using hk) h1.1 (by omega) (by omega) M1 q
theorem new_mid (st : Sto) (b : Book) (order : List Str) (sh : Bool) : Mid st [] (newSt st b order sh) st.length b (freshM order sh) (newFp st.length) .non := by
  refine ⟨new_at st b order sh, (Fr.refl st []).push _, .inr (Nat.le_refl _), fun i hi => .inr ?_⟩
  simp only [newFp, Fp.all, List.mem_cons, List.not_mem_nil, or_false] at hi
  omega
theorem Mid.back {st st1 : Sto} {s : RSt} {f : Fp} {kD : D} (M : Mid st [] st1 r b s f kD) : st1.take st.length = st := by
  apply List.ext_getElem?
  intro j
  by_cases hj : j < st.length
  · rw [List.getElem?_take_of_lt hj]
    exact M.fr.same j hj (by simp)
  · rw [List.getElem?_eq_none (by simp; omega), List.getElem?_eq_none (by omega)]
theorem run_at (R : RunT T gc) (hR : T.get "run" = some k_p_run) (hn : 23 < n) (hb : b.run KS) {order : List Str} {sh : Bool} (ho : ∀ p ∈ order, p ∈ b.rows.map Row.path) (hl : order.length ≤ 2000) (P : D → Sto → Prop) (E : Str → Sto → Prop) :
    wp (cfN T gc n "run" [b.d, sD order, .bl sh]) st P E = P (resD (runM b order sh)) st := by
  refine wp_det ?_ P E
  obtain ⟨n, rfl⟩ : ∃ k, n = k + 1 := ⟨n - 1, by omega⟩
  rw [w_fn hR]
  have hs0 := fresh_ok (KS := KS) (sh := sh) ho
  simp [k_p_run]
  rw [init_at R (by omega)]
  simp
  refine run_loop R (by omega) hb _ order.length 0 (freshM order sh) _ _ _ 10000 rfl hs0 (by omega) (by omega) (new_mid st b order sh) fun st1 f1 kD1 M1 => ?_
  have h1 := stepsM_ok hb order.length hs0 (Nat.le_refl _)
  simp [M1.at_.m_ok (m := "end") rfl]
  refine wp_go (end_at R (n := n) (by omega) hb h1.1 (by omega) M1 h1.2.2.2) fun d st2 ⟨_, f2, kD2, M2⟩ => ?_
  have h2 := (endM_ok hb h1.1).1
  have ht := h2.told
  have hbd := h2.bad
  have hw := h2.now.len hb.ks
  simp [M2.at_.m_ok (m := "rows") rfl, M2.at_.m_ok (m := "spoilt") rfl, M2.at_.m_ok (m := "world") rfl]
  rw [rows_at R (by omega) M2.at_ (by omega)]
  simp [M2.at_.m_ok (m := "spoilt") rfl]
  rw [spoilt_at R (by omega) M2.at_ (by omega)]
  simp [M2.at_.m_ok (m := "world") rfl]
  rw [world_at R (by omega) M2.at_ hw]
  rw [fnQ_drop (fun i e => by cases e) ?_ (.inl M2.back)]
  · exact ⟨rfl, M2.back⟩
  · exact resD_rlt _ _
end
end TB
set_option Elab.async false
set_option linter.all false
set_option maxRecDepth 100000
set_option maxHeartbeats 4000000
/-! TB38: runs as folds over the tries -/
namespace TB
open PySem PySem.Spec L2
/-- the same runner with other tries left, other rows, more spoilt ones ahead -/
def RSt.sh (s : RSt) (rest : List Str) (told : List RowT) (pre : List Str) (over : Bool) : RSt := { s with rest := rest, told := told, bad := pre ++ s.bad, over := over }
section
variable {b : Book} {R : List Str} {t : List RowT} {pre : List Str} {o : Bool}
theorem takeDown_sh (s : RSt) (said : List Str) (x : Str) : takeDown b (s.sh R t pre o) said x = ((takeDown b s said x).1.sh R t pre o, (takeDown b s said x).2) := by
  unfold takeDown RSt.sh
  dsimp only
  by_cases h : (doAll s.now said 0 (b.downs x)).2.2.1 = "good"
  · rw [if_pos h, if_pos h]
  · rw [if_neg h, if_neg h, List.append_assoc]
theorem clearL_sh (far : Int) (g : Option Str) : ∀ (l : List (Str × Str)) (s : RSt) (said : List Str), clearL b far g l (s.sh R t pre o, said) = ((clearL b far g l (s, said)).1.sh R t pre o, (clearL b far g l (s, said)).2)
  | [], s, said => rfl
  | p :: l, s, said => by
    unfold clearL
    by_cases h : goes b far g p = true
    · rw [if_pos h, if_pos h]
      dsimp only
      rw [takeDown_sh]
      exact clearL_sh far g l _ _
    · rw [if_neg h, if_neg h]
      exact clearL_sh far g l _ _
theorem clear_sh (far : Int) (g : Option Str) (s : RSt) (said : List Str) : clear b far g (s.sh R t pre o) said = ((clear b far g s said).1.sh R t pre o, (clear b far g s said).2) := clearL_sh far g _ s said
theorem leaveGroup_sh (g : Str) (s : RSt) : leaveGroup b g (s.sh R t pre o) = (leaveGroup b g s).sh R t pre o := by
  unfold leaveGroup
  have := clear_sh (b := b) (R := R) (t := t) (pre := pre) (o := o) 1 (some g) { s with brok := s.brok.filter fun p => !lostB b g p } []
  exact congrArg Prod.fst this
theorem upM_sh (s : RSt) (said : List Str) (kept : Option Wd) (x g : Str) : upM b (s.sh R t pre o) said kept x g = ((upM b s said kept x g).1.sh R t pre o, (upM b s said kept x g).2) := by
  unfold upM
  dsimp only
  by_cases h : (doAll s.now said 0 (b.ups x)).2.2.1 = "good"
  · rw [show (s.sh R t pre o).now = s.now from rfl, if_pos h, if_pos h]; rfl
  · rw [show (s.sh R t pre o).now = s.now from rfl, if_neg h, if_neg h]; rfl
theorem setUpL_sh (g : Str) : ∀ (l : List Str) (s : RSt) (said : List Str) (kept : Option Wd), setUpL b g l (s.sh R t pre o) said kept = ((setUpL b g l s said kept).1.sh R t pre o, (setUpL b g l s said kept).2)
  | [], s, said, kept => rfl
  | x :: l, s, said, kept => by
    unfold setUpL
    rw [show (s.sh R t pre o).brok = s.brok from rfl, show (s.sh R t pre o).stand = s.stand from rfl, upM_sh]
    cases valG s.brok x with
    | some q => rfl
    | none =>
      dsimp only
      by_cases h : x ∈ s.stand.map (·.1)
      · rw [if_pos h, if_pos h]
        exact setUpL_sh g l s said kept
      · rw [if_neg h, if_neg h]
        rcases e : upM b s said kept x g with ⟨s1, said1, kept1, q⟩
        cases q with
        | some q => rfl
        | none => exact setUpL_sh g l s1 said1 kept1
theorem deedsM_sh (u : RSt × List Str × Option Wd × Option (Str × Str)) (ds : List Deed) : deedsM (u.1.sh R t pre o, u.2) ds = ((deedsM u ds).1.sh R t pre o, (deedsM u ds).2) := by
  unfold deedsM
  dsimp only
  cases u.2.2.2 <;> rfl
end
/-- what goes on from try to try -/
structure Co where
  now : Wd
  stand : List (Str × Str)
  brok : List (Str × Str × Str)
def RSt.co (s : RSt) : Co := ⟨s.now, s.stand, s.brok⟩
def Co.r (c : Co) (sh : Bool) (l : List Str) : RSt := ⟨l, sh, c.now, c.stand, c.brok, [], [], false⟩
def Co.nil : Co := ⟨[], [], []⟩
/-- a try: what goes on, its row, what was spoilt -/
def stepC (b : Book) (sh : Bool) (c : Co) (p : Str) : Co × RowT × List Str := ((stepM b (c.r sh [p])).1.co, (stepM b (c.r sh [p])).2, (stepM b (c.r sh [p])).1.bad)
theorem stepM_C (b : Book) {s : RSt} {p : Str} {l : List Str} (hr : s.rest = p :: l) : stepM b s =
    ({ rest := l, share := s.share, now := (stepC b s.share s.co p).1.now, stand := (stepC b s.share s.co p).1.stand, brok := (stepC b s.share s.co p).1.brok, told := s.told ++ [(stepC b s.share s.co p).2.1], bad := s.bad ++ (stepC b s.share s.co p).2.2, over := s.over }, (stepC b s.share s.co p).2.1) := by
  unfold stepC
  rw [stepM_eq b s hr, stepM_eq b (s.co.r s.share [p]) rfl]
  have e : ({ s with rest := l } : RSt) = ({ s.co.r s.share [p] with rest := [] } : RSt).sh l s.told s.bad s.over := by
    unfold RSt.sh Co.r RSt.co
    simp
  rw [e, leaveGroup_sh, setUpL_sh]
  have k4 := (leaveGroup_keep b (b.rowOf p).group { s.co.r s.share [p] with rest := [] }).1
  have k3 := (setUpL_share b (b.rowOf p).group (b.need (b.rowOf p).wants) (leaveGroup b (b.rowOf p).group { s.co.r s.share [p] with rest := [] }) [] none).1
  have k3t := (setUpL_share b (b.rowOf p).group (b.need (b.rowOf p).wants) (leaveGroup b (b.rowOf p).group { s.co.r s.share [p] with rest := [] }) [] none).2.2.1
  have k4t := (leaveGroup_keep b (b.rowOf p).group { s.co.r s.share [p] with rest := [] }).2.2.1
  generalize setUpL b (b.rowOf p).group (b.need (b.rowOf p).wants) (leaveGroup b (b.rowOf p).group { s.co.r s.share [p] with rest := [] }) [] none = u at k3 k3t
  dsimp only
  rw [deedsM_sh u]
  have k2 := (deedsM_share u (b.rowOf p).deeds).1
  generalize deedsM u (b.rowOf p).deeds = v at k2
  dsimp only
  rw [clear_sh]
  have k1 := (clear_keep b 0 (some "") v.1 v.2.1).1
  generalize clear b 0 (some "") v.1 v.2.1 = z at k1
  have hz : z.1.share = s.share := by rw [k1, k2, k3, k4]; rfl
  dsimp only
  simp only [RSt.sh, RSt.co, Co.r]
  rw [hz]
  first | rfl | (cases s.share <;> rfl)
/-- the tries of an order, one after the other: rows, spoilt ones, what goes on -/
def runC (b : Book) (sh : Bool) : List Str → Co → List RowT × List Str × Co
  | [], c => ([], [], c)
  | p :: l, c => ((stepC b sh c p).2.1 :: (runC b sh l (stepC b sh c p).1).1, (stepC b sh c p).2.2 ++ (runC b sh l (stepC b sh c p).1).2.1, (runC b sh l (stepC b sh c p).1).2.2)
theorem stepsM_C (b : Book) : ∀ (k : Nat) (s : RSt), k ≤ s.rest.length → stepsM b k s =
    { rest := s.rest.drop k, share := s.share, now := (runC b s.share (s.rest.take k) s.co).2.2.now, stand := (runC b s.share (s.rest.take k) s.co).2.2.stand, brok := (runC b s.share (s.rest.take k) s.co).2.2.brok, told := s.told ++ (runC b s.share (s.rest.take k) s.co).1, bad := s.bad ++ (runC b s.share (s.rest.take k) s.co).2.1, over := s.over }
  | 0, s, _ => by
    unfold stepsM runC
    cases s
    simp [RSt.co]
  | k + 1, s, h => by
    cases hr : s.rest with
    | nil => rw [hr] at h; simp at h
    | cons p l =>
      show stepsM b k (stepM b s).1 = _
      rw [stepM_C b hr]
      rw [hr] at h
      rw [stepsM_C b k _ (by simpa using h)]
      simp [runC, RSt.co]
theorem runC_app (b : Book) (sh : Bool) : ∀ (l m : List Str) (c : Co), runC b sh (l ++ m) c = ((runC b sh l c).1 ++ (runC b sh m (runC b sh l c).2.2).1, (runC b sh l c).2.1 ++ (runC b sh m (runC b sh l c).2.2).2.1, (runC b sh m (runC b sh l c).2.2).2.2)
  | [], m, c => by simp [runC]
  | p :: l, m, c => by
    have ih := runC_app b sh l m (stepC b sh c p).1
    show ((stepC b sh c p).2.1 :: (runC b sh (l ++ m) (stepC b sh c p).1).1, (stepC b sh c p).2.2 ++ (runC b sh (l ++ m) (stepC b sh c p).1).2.1, (runC b sh (l ++ m) (stepC b sh c p).1).2.2) = _
    rw [ih]
    have e : runC b sh (p :: l) c = ((stepC b sh c p).2.1 :: (runC b sh l (stepC b sh c p).1).1, (stepC b sh c p).2.2 ++ (runC b sh l (stepC b sh c p).1).2.1, (runC b sh l (stepC b sh c p).1).2.2) := rfl
    rw [e]
    simp
theorem stepC_path (b : Book) (sh : Bool) (c : Co) (p : Str) : (stepC b sh c p).2.1.path = p := by
  unfold stepC
  rw [stepM_eq b (c.r sh [p]) rfl]
theorem runC_paths (b : Book) (sh : Bool) : ∀ (l : List Str) (c : Co), (runC b sh l c).1.map RowT.path = l
  | [], c => rfl
  | p :: l, c => by
    unfold runC
    rw [List.map_cons, stepC_path, runC_paths b sh l]
theorem runC_len (b : Book) (sh : Bool) (l : List Str) (c : Co) : (runC b sh l c).1.length = l.length := by
  have := congrArg List.length (runC_paths b sh l c)
  simpa using this
theorem runC_take (b : Book) (sh : Bool) (l : List Str) (c : Co) (k : Nat) : (runC b sh (l.take k) c).1 = (runC b sh l c).1.take k := by
  have h := runC_app b sh (l.take k) (l.drop k) c
  rw [List.take_append_drop] at h
  have h1 := congrArg Prod.fst h
  dsimp only at h1
  have hlen := runC_len b sh (l.take k) c
  by_cases hk : k ≤ l.length
  · rw [h1, List.take_append_of_le_length (by rw [hlen, List.length_take]; omega)]
    exact (List.take_of_length_le (by rw [hlen, List.length_take]; omega)).symm
  · rw [List.take_of_length_le (l := l) (by omega)]
    exact (List.take_of_length_le (by rw [runC_len]; omega)).symm
/-- all is taken down: what was spoilt, the world -/
def endC (b : Book) (c : Co) : List Str × Wd := ((endM b (c.r true [])).bad, (endM b (c.r true [])).now)
theorem endM_C (b : Book) (s : RSt) : (endM b s).told = s.told ∧ (endM b s).bad = s.bad ++ (endC b s.co).1 ∧ (endM b s).now = (endC b s.co).2 ∧ (endM b s).stand = (endM b (s.co.r true [])).stand := by
  have hsh : ∀ (q : RSt) (sh : Bool), (clear b 2 none { q with share := sh } []).1.now = (clear b 2 none q []).1.now ∧ (clear b 2 none { q with share := sh } []).1.bad = (clear b 2 none q []).1.bad ∧ (clear b 2 none { q with share := sh } []).1.stand = (clear b 2 none q []).1.stand := by
    intro q sh
    have : ∀ (l : List (Str × Str)) (q : RSt) (said : List Str), clearL b 2 none l ({ q with share := sh }, said) = ({ (clearL b 2 none l (q, said)).1 with share := sh }, (clearL b 2 none l (q, said)).2) := by
      intro l
      induction l with
      | nil => intro q said; rfl
      | cons p l ih =>
        intro q said
        unfold clearL
        by_cases h : goes b 2 none p = true
        · rw [if_pos h, if_pos h]
          exact ih (takeDown b q said p.1).1 (takeDown b q said p.1).2
        · rw [if_neg h, if_neg h]
          exact ih q said
    have e := this q.stand.reverse q []
    unfold clear
    dsimp only
    rw [e]
    exact ⟨rfl, rfl, rfl⟩
  have e : ({ s with over := true, rest := [] } : RSt) = ({ ({ s.co.r true [] with over := true, rest := [] } : RSt) with share := s.share } : RSt).sh [] s.told s.bad true := by
    unfold RSt.sh Co.r RSt.co
    simp
  have h1 := hsh { s.co.r true [] with over := true, rest := [] } s.share
  unfold endC endM
  rw [e, clear_sh]
  have k := clear_keep b 2 none ({ ({ s.co.r true [] with over := true, rest := [] } : RSt) with share := s.share } : RSt) []
  refine ⟨rfl, ?_, h1.1, h1.2.2⟩
  show s.bad ++ _ = _
  rw [h1.2.1]
/-- what a run tells -/
def runR (b : Book) (order : List Str) (sh : Bool) : List RowT × List Str × List (Str × Int) :=
  ((runC b sh order .nil).1, (runC b sh order .nil).2.1 ++ (endC b (runC b sh order .nil).2.2).1, worldM (endC b (runC b sh order .nil).2.2).2)
def resR (q : List RowT × List Str × List (Str × Int)) : D := .tup [.tup (q.1.map RowT.d), sD q.2.1, .tup (q.2.2.map nnD)]
theorem runM_R (b : Book) (order : List Str) (sh : Bool) : resD (runM b order sh) = resR (runR b order sh) := by
  unfold runM
  rw [stepsM_C b order.length (freshM order sh) (Nat.le_refl _)]
  have e := endM_C b { rest := (freshM order sh).rest.drop order.length, share := (freshM order sh).share, now := (runC b (freshM order sh).share ((freshM order sh).rest.take order.length) (freshM order sh).co).2.2.now, stand := (runC b (freshM order sh).share ((freshM order sh).rest.take order.length) (freshM order sh).co).2.2.stand, brok := (runC b (freshM order sh).share ((freshM order sh).rest.take order.length) (freshM order sh).co).2.2.brok, told := (freshM order sh).told ++ (runC b (freshM order sh).share ((freshM order sh).rest.take order.length) (freshM order sh).co).1, bad := (freshM order sh).bad ++ (runC b (freshM order sh).share ((freshM order sh).rest.take order.length) (freshM order sh).co).2.1, over := (freshM order sh).over }
  unfold resD
  rw [e.1, e.2.1, e.2.2.1]
  have et : (freshM order sh).rest.take order.length = order := List.take_of_length_le (Nat.le_refl _)
  rw [et]
  rfl
section
variable {T : Tab} {gc : Str → Option D} {n : Nat} {st : Sto} {b : Book} {KS : List Str}
theorem run_eq (R : RunT T gc) (hR : T.get "run" = some k_p_run) (hn : 23 < n) (hb : b.run KS) {order : List Str} {sh : Bool} (ho : ∀ p ∈ order, p ∈ b.rows.map Row.path) (hl : order.length ≤ 2000) (P : D → Sto → Prop) (E : Str → Sto → Prop) :
    wp (cfN T gc n "run" [b.d, sD order, .bl sh]) st P E = P (resR (runR b order sh)) st := by
  rw [run_at R hR hn hb ho hl, runM_R]
end
end TB
set_option Elab.async false
set_option linter.all false
set_option maxRecDepth 100000
set_option maxHeartbeats 4000000
/-! TB39: drawn orders; drawn books can be run; results are equal to themselves -/
namespace TB
open PySem PySem.Spec L2
def k_p_run_till : Def := ⟨"run_till", ["book", "order", "is_sharing", "most"], ["book", "order", "is_sharing", "most", "runner", "many"],
  (.cons (.asg (.one 4) (.mk "Runner" "Runner.__init__" 4 (.cons (.var 0) (.cons (.var 1) (.cons (.var 2) .nil)))))
  (.cons (.asg (.one 5) (.int 0))
  (.cons (.whl 10000 (.band (.cons (.cmp .NotEq (.meth "Runner" "left" "Runner.left" 1 (.var 4) .nil) (.tup .nil)) (.cons (.cmp .Lt (.var 5) (.var 3)) .nil)))
   (.cons (.asg (.one 5) (.bin (.add false) (.var 5) (.blt .int (.cmp .In (.idx (.meth "Runner" "step" "Runner.step" 1 (.var 4) .nil) (.int 1)) (.glob "BAD")))))
   .nil))
  (.cons (.expr (.meth "Runner" "end" "Runner.end" 1 (.var 4) .nil))
  (.cons (.ret (.tup (.cons (.meth "Runner" "rows" "Runner.rows" 1 (.var 4) .nil) (.cons (.meth "Runner" "spoilt" "Runner.spoilt" 1 (.var 4) .nil) (.cons (.meth "Runner" "world" "Runner.world" 1 (.var 4) .nil) .nil)))))
  .nil)))))⟩

def k_row_of : Def := ⟨"_law_row_of", ["script", "town", "every", "top"], ["script", "town", "every", "top", "got", "k"],
  (.cons (.asg (.one 4) (.tup .nil))
  (.cons (.for_ (.one 5) (.rng1 (.bin (.mul false) (.call "_law_draw" 3 (.cons (.var 0) (.cons (.var 1) (.cons (.bin (.add false) (.var 3) (.int 1)) .nil)))) (.blt .int (.cmp .Gt (.blt .len (.var 2)) (.int 0)))))
   (.cons (.asg (.one 4) (.bin (.add false) (.var 4) (.tup (.cons (.call "_law_pick" 3 (.cons (.var 0) (.cons (.var 1) (.cons (.var 2) .nil)))) .nil))))
   .nil))
  (.cons (.ret (.var 4))
  .nil)))⟩

def k_cut : Def := ⟨"_law_cut", ["rows", "most"], ["rows", "most", "many", "at", "row"],
  (.cons (.asg (.one 2) (.int 0))
  (.cons (.for_ (.tup [3, 4]) (.enum (.var 0))
   (.cons (.ife (.cmp .Eq (.var 2) (.var 1))
    (.cons (.ret (.var 3))
    .nil)
    .nil)
   (.cons (.asg (.one 2) (.bin (.add false) (.var 2) (.blt .int (.cmp .In (.idx (.var 4) (.int 1)) (.tup (.cons (.str "bad") (.cons (.str "broken") .nil)))))))
   .nil)))
  (.cons (.ret (.blt .len (.var 0)))
  .nil)))⟩


section
variable {T : Tab} {gc : Str → Option D} {n : Nat} {st : Sto} {P : D → Sto → Prop} {E : Str → Sto → Prop}
theorem row_of_at (hD : T.get "_law_draw" = some k_draw) (hP : T.get "_law_pick" = some k_pick) (hS : T.get "_law_row_of" = some k_row_of) (hn : 2 < n)
    {ns : List Int} {i k : Nat} {l : List Str} {row : D} {top : Nat} (hrow : row = .tup (l.map .str) ∨ row = .lst (l.map .str)) (hi : st[i]? = some (.lst (zeros k))) (ht : top ≤ 1000) (hk : k + top + 1 < 1000000) :
    wp (cfN T gc n "_law_row_of" [.scr ns, .ref i, row, .int top]) st (fun d st1 => ∃ r : List Str, ∃ k', d = sD r ∧ (∀ x ∈ r, x ∈ l) ∧ r.length ≤ top ∧ k' ≤ k + top + 1 ∧ st1 = st.set i (.lst (zeros k'))) noX := by
  obtain ⟨n, rfl⟩ : ∃ k, n = k + 1 := ⟨n - 1, by omega⟩
  have hlt := tw_lt hi
  rw [w_fn hS]
  simp [k_row_of]
  refine wp_go (draw_at hD (by omega) (by omega) hi (by omega)) ?_
  rintro _ _ ⟨j, h0, h1, rfl, rfl⟩
  have hlen : ∀ st2 (P : D → Sto → Prop) E, wp (gLen [row]) st2 P E = P (.int l.length) st2 := by
    intro st2 P E
    rcases hrow with rfl | rfl <;> simp
  obtain ⟨m, hm, hmt, hmz⟩ : ∃ m : Nat, (m : Int) = j * (if decide (0 < l.length) = true then 1 else 0) ∧ m ≤ top ∧ (0 < m → 0 < l.length) := by
    by_cases h : 0 < l.length
    · exact ⟨j.toNat, by simp [h]; omega, by omega, fun _ => h⟩
    · exact ⟨0, by simp [h], by omega, fun z => by omega⟩
  have e1 : ∀ st2 (P : D → Sto → Prop) E, wp (opMul false (.int j) (.int (if decide (0 < l.length) = true then 1 else 0))) st2 P E = P (.int m) st2 := by
    intro st2 P E
    rw [q_muli (.inl (by omega)), hm]
  rw [hlen, q_oGt, show (decide ((0 : Int) < (l.length : Nat))) = decide (0 < l.length) from by simp, q_int_bl, e1, q_rng m (by omega), lk_some]
  refine loop_inv (fun ds ρ st2 => ds.length ≤ m ∧ ∃ r : List Str, ∃ x5, (∀ x ∈ r, x ∈ l) ∧ r.length ≤ m - ds.length ∧ st2 = st.set i (.lst (zeros (k + 1 + (m - ds.length)))) ∧ ρ = [some (.scr ns), some (.ref i), some row, some (.int top), some (.tup (r.map .str)), x5]) ?_ ?_ ?_ _ _ _ ?_
  · intro ds ρ st2 _
    trivial
  · rintro d ds _ _ ⟨hd, r, x5, r2, r3, rfl, rfl⟩
    refine ⟨_, rfl, ?_⟩
    simp at hd r3
    have hl0 := hmz (by omega)
    simp
    refine wp_go (pick_seq hD hP (by omega) hrow (by simpa using hl0) (tw_set hi _) (by omega) (fun x hx i e => ?_)) ?_
    · obtain ⟨a, _, rfl⟩ := List.mem_map.mp hx
      cases e
    · rintro d2 _ ⟨hd2, rfl⟩
      obtain ⟨a, ha, rfl⟩ := List.mem_map.mp hd2
      have hkk : k + 1 + (m - (ds.length + 1)) + 1 = k + 1 + (m - ds.length) := by omega
      have hrl : r.length ≤ 16777215 := by omega
      simp [hkk, hrl]
      refine ⟨by omega, r ++ [a], ?_, by simp; omega, by simp⟩
      intro x hx
      rcases List.mem_append.mp hx with h | h
      · exact r2 x h
      · simp at h; subst h; exact ha
  · rintro _ _ ⟨_, r, x5, r2, r3, rfl, rfl⟩
    simp at r3
    simp
    rw [fnQ_rt (by simp) (fun i e => by cases e)]
    exact ⟨r, rfl, r2, by omega, _, by omega, rfl⟩
  · refine ⟨by simp [rngL], [], none, (fun x h => nomatch h), by simp, ?_, rfl⟩
    simp [rngL]
end
/-! ### drawn books -/
def kmn : List Str := ["k", "m", "n"]
theorem ok_key {d : Deed} (h : d.ok) : d.keyIn kmn := by
  cases d with
  | set k n => rcases h.1 with rfl | rfl | rfl <;> simp [Deed.keyIn, kmn]
  | add k n => rcases h.1 with rfl | rfl | rfl <;> simp [Deed.keyIn, kmn]
  | _ => trivial
mutual
theorem Mem.rows_okD {sn : List Str} : ∀ (k : Nat) (m : Mem) (a : Str) (mk ws : List Str), m.ok sn k → ∀ r ∈ m.rows a mk ws, okD kmn r.deeds
  | _, .try_ n m w ds, a, mk, ws, h, r, hr => by
    simp only [Mem.rows, List.mem_singleton] at hr
    subst hr
    simp only [Mem.ok] at h
    exact ⟨by have := h.2.1; show ds.length ≤ 30; omega, fun d hd => ok_key (h.2.2 d hd)⟩
  | _, .many n m w k ns ds, a, mk, ws, h, r, hr => by
    simp only [Mem.rows, List.mem_map] at hr
    obtain ⟨i, hi, rfl⟩ := hr
    simp only [Mem.ok] at h
    refine ⟨by have := h.2.2.2.1; show (ds.length + 1) ≤ 30; omega, fun d hd => ?_⟩
    rcases List.mem_cons.mp hd with rfl | hd
    · rcases h.2.1 with rfl | rfl <;> simp [Deed.keyIn, kmn]
    · exact ok_key (h.2.2.2.2 d hd)
  | 0, .group n m w ms, a, mk, ws, h, r, hr => by simp only [Mem.ok] at h
  | k + 1, .group n m w ms, a, mk, ws, h, r, hr => by
    simp only [Mem.rows] at hr
    simp only [Mem.ok] at h
    exact rowsIn_okD k ms _ _ _ h.2.2.2.2 r hr
theorem rowsIn_okD {sn : List Str} : ∀ (k : Nat) (ms : List Mem) (a : Str) (mk ws : List Str), oksIn sn k ms → ∀ r ∈ rowsIn a mk ws ms, okD kmn r.deeds
  | _, [], a, mk, ws, h, r, hr => by simp [rowsIn] at hr
  | k, m :: ms, a, mk, ws, h, r, hr => by
    simp only [rowsIn, List.mem_append] at hr
    simp only [oksIn] at h
    rcases hr with hr | hr
    · exact Mem.rows_okD k m a mk ws h.1 r hr
    · exact rowsIn_okD k ms a mk ws h.2 r hr
end
theorem Book.ok.run {b : Book} (h : b.ok) : b.run kmn where
  st := h.stOk
  ft := h.fits
  nd := h.nodup
  wn := fun r hr => let q := h.wants hr; ⟨q.1, by omega⟩
  ud := fun s hs => by
    obtain ⟨pre, os, _⟩ := h.st1.mem hs
    exact ⟨⟨by have := os.ups.1; omega, fun d hd => ok_key (os.ups.2 d hd)⟩, ⟨by have := os.downs.1; omega, fun d hd => ok_key (os.downs.2 d hd)⟩⟩
  rd := fun r hr => rowsIn_okD 2 b.mems "" [] [] h.m1 r hr
  ks := by decide
/-! ### equal to itself -/
theorem fines_map {α : Type} {k : Nat} {g : α → D} (h : ∀ x, (g x).fine k = true) : ∀ l : List α, D.fines k (l.map g) = true
  | [] => rfl
  | x :: l => by simp only [List.map_cons, D.fines, h x, fines_map h l]; rfl
theorem RowT.fine (t : RowT) : t.d.fine 2 = true := by
  cases t with
  | mk p w wh s =>
    have : D.fines 0 (s.map D.str) = true := fines_map (fun x => rfl) s
    cases wh <;> simp [RowT.d, D.fine, D.fines, Wh.d, sD, this]
theorem rowsT_fine (l : List RowT) : (D.tup (l.map RowT.d)).fine 3 = true := by
  simp only [D.fine]; exact fines_map RowT.fine l
theorem resR_fine (q : List RowT × List Str × List (Str × Int)) : (resR q).fine 4 = true := by
  have h1 := rowsT_fine q.1
  have h2 : D.fines 2 (q.2.1.map D.str) = true := fines_map (fun x => rfl) _
  have h3 : D.fines 2 (q.2.2.map nnD) = true := fines_map (fun x => rfl) _
  simp [resR, D.fine, D.fines, sD, h2, h3]
  simpa [D.fine] using h1
theorem eqT_res {st : Sto} (q : List RowT × List Str × List (Str × Int)) : eqT st (resR q) (resR q) = some true := eqT_refl (resR_fine q) (by omega)
theorem eqT_rows {st : Sto} (l : List RowT) : eqT st (.tup (l.map RowT.d)) (.tup (l.map RowT.d)) = some true := eqT_refl (rowsT_fine l) (by omega)
end TB
set_option Elab.async false
set_option linter.all false
set_option maxRecDepth 100000
set_option maxHeartbeats 4000000
/-! TB40: run_till -/
namespace TB
open PySem PySem.Spec L2
def isBadW (w : Str) : Bool := decide (w = "bad" ∨ w = "broken")
/-- how many rows till so many were bad -/
def cutR (most : Nat) : Nat → List RowT → Nat
  | _, [] => 0
  | many, t :: l => if many < most then cutR most (many + if isBadW t.word then 1 else 0) l + 1 else 0
theorem cutR_le (most : Nat) : ∀ (l : List RowT) (many : Nat), cutR most many l ≤ l.length
  | [], many => Nat.le_refl _
  | t :: l, many => by
    unfold cutR
    split
    · have := cutR_le most l (many + if isBadW t.word then 1 else 0); simp; omega
    · simp
theorem cutR_mono {m m' : Nat} (h : m ≤ m') : ∀ (l : List RowT) (many : Nat), cutR m many l ≤ cutR m' many l
  | [], many => Nat.le_refl _
  | t :: l, many => by
    unfold cutR
    by_cases h1 : many < m
    · have h2 : many < m' := by omega
      rw [if_pos h1, if_pos h2]
      have := cutR_mono h l (many + if isBadW t.word then 1 else 0)
      omega
    · rw [if_neg h1]; exact Nat.zero_le _
theorem cutR_all : ∀ (l : List RowT) (many most : Nat), many + l.length ≤ most → cutR most many l = l.length
  | [], many, most, _ => rfl
  | t :: l, many, most, h => by
    unfold cutR
    rw [List.length_cons] at h
    have h2 : many < most := by omega
    rw [if_pos h2, cutR_all l _ most (by split <;> omega)]
    rfl
theorem cutR_last : ∀ (l : List RowT) (many most k : Nat), cutR most many l = k + 1 → k + 1 < l.length → ∃ t, l[k]? = some t ∧ isBadW t.word = true
  | [], many, most, k, h, hl => by simp at hl
  | t :: l, many, most, k, h, hl => by
    unfold cutR at h
    by_cases hm : many < most
    · rw [if_pos hm] at h
      cases k with
      | zero =>
        have h0 : cutR most (many + if isBadW t.word then 1 else 0) l = 0 := by omega
        cases l with
        | nil => simp at hl
        | cons t2 l =>
          refine ⟨t, rfl, ?_⟩
          cases hb : isBadW t.word with
          | true => rfl
          | false =>
            rw [hb] at h0
            unfold cutR at h0
            have h3 : many + (if false = true then 1 else 0) < most := by simpa using hm
            rw [if_pos h3] at h0
            omega
      | succ k =>
        obtain ⟨u, hu, hb⟩ := cutR_last l (many + if isBadW t.word then 1 else 0) most k (by omega) (by simpa using hl)
        exact ⟨u, by simpa using hu, hb⟩
    · rw [if_neg hm] at h; omega
/-! ### for over range -/
def rgQ (I : Nat → Lo → Sto → Prop) (m : Nat) (Q : Out → Sto → Prop) : Out → Sto → Prop
  | .nx ρ, st => I m ρ st
  | .ct ρ, st => I m ρ st
  | .bk ρ, st => Q (.nx ρ) st
  | o, st => Q o st
section
variable {I : Nat → Lo → Sto → Prop} {m : Nat} {Q : Out → Sto → Prop} {ρ : Lo} {st : Sto}
@[simp ↓] theorem rgQ_nx : rgQ I m Q (.nx ρ) st = I m ρ st := rfl
@[simp ↓] theorem rgQ_ct : rgQ I m Q (.ct ρ) st = I m ρ st := rfl
@[simp ↓] theorem rgQ_bk : rgQ I m Q (.bk ρ) st = Q (.nx ρ) st := rfl
@[simp ↓] theorem rgQ_rt {d : D} : rgQ I m Q (.rt d) st = Q (.rt d) st := rfl
@[simp ↓] theorem rgQ_ex {c : Str} : rgQ I m Q (.ex c ρ) st = Q (.ex c ρ) st := rfl
theorem loop_rng {src : Src} (hsrc : src.grd = none) {i : Nat} {body : MS} (I : Nat → Lo → Sto → Prop) (N : Nat) (step : ∀ m ρ st, m < N → I m ρ st → wpS body (ρ.set i (some (.int (m : Nat)))) st (rgQ I (m + 1) Q)) (fin : ∀ ρ st, I N ρ st → Q (.nx ρ) st) (ρ : Lo) (st : Sto) (h0 : I 0 ρ st) :
    wpS (loopF src (.one i) body (rngL 0 N)) ρ st Q := by
  have hd : ∀ m, m < N → (rngL 0 N).drop m = .int (m : Nat) :: (rngL 0 N).drop (m + 1) := by
    intro m hm
    have hl : m < (rngL 0 N).length := by rw [rngL_len]; exact hm
    rw [List.drop_eq_getElem_cons hl]
    congr 1
    simp [rngL]
  have key : ∀ k m ρ st, N - m = k → m ≤ N → I m ρ st → wpS (loopF src (.one i) body ((rngL 0 N).drop m)) ρ st Q := by
    intro k
    induction k with
    | zero =>
      intro m ρ st hk hm h
      have : m = N := by omega
      subst this
      have hok : src.ok st := by unfold Src.ok; rw [hsrc]; trivial
      rw [List.drop_eq_nil_of_le (by rw [rngL_len]; exact Nat.le_refl _), loop_nil hok]
      exact fin ρ st h
    | succ k ih =>
      intro m ρ st hk hm h
      have hok : src.ok st := by unfold Src.ok; rw [hsrc]; trivial
      rw [hd m (by omega), loop_cons hok (ρ1 := ρ.set i (some (.int (m : Nat)))) rfl]
      refine wpS_mono (step m ρ st (by omega) h) fun o st1 q => ?_
      cases o with
      | nx ρ2 => exact ih (m + 1) ρ2 st1 (by omega) (by omega) q
      | ct ρ2 => exact ih (m + 1) ρ2 st1 (by omega) (by omega) q
      | bk ρ2 => exact q
      | rt d => exact q
      | ex c ρ2 => exact q
  have := key N 0 ρ st (by omega) (Nat.zero_le _) h0
  simpa using this
end
theorem runR_nil (b : Book) (sh : Bool) : runR b [] sh = ([], [], []) := by
  simp [runR, runC, endC, endM, clear, Co.r, Co.nil, clearL, worldM, sortK]
section
variable {T : Tab} {gc : Str → Option D} {n : Nat} {st st0 : Sto} {X : List Nat} {r : Nat} {b : Book} {s : RSt} {f : Fp} {kD : D} {KS : List Str}
theorem till_loop (R : RunT T gc) (hn : 22 < n) (hb : b.run KS) (hB : gc "BAD" = some (.tup [.str "bad", .str "broken"])) {st0 : Sto} {X : List Nat} {a1 a2 a3 : Option D} {most : Nat} (Q : Out → Sto → Prop) : ∀ (k c : Nat) (s : RSt) (st : Sto) (f : Fp) (kD : D) (m many : Nat), s.rest.length = k → s.ok b KS c → c + 25 * k ≤ 70000 → k < m → Mid st0 X st r b s f kD →
    (∀ many' st1 f1 kD1, Mid st0 X st1 r b (stepsM b (cutR most many (runC b s.share s.rest s.co).1) s) f1 kD1 → Q (.nx [a1, a2, a3, some (.int most), some (.ref r), some (.int (many' : Nat))]) st1) →
    wpS (loopW (tst (cfN T gc n) gc (.band (.cons (.cmp .NotEq (.meth "Runner" "left" "Runner.left" 1 (.var 4) .nil) (.tup .nil)) (.cons (.cmp .Lt (.var 5) (.var 3)) .nil)))) (exSs (cfN T gc n) gc (.cons (.asg (.one 5) (.bin (.add false) (.var 5) (.blt .int (.cmp .In (.idx (.meth "Runner" "step" "Runner.step" 1 (.var 4) .nil) (.int 1)) (.glob "BAD"))))) .nil)) m) [a1, a2, a3, some (.int most), some (.ref r), some (.int (many : Nat))] st Q
  | 0, c, s, st, f, kD, m, many, hk, hs, hc, hm, M, q => by
    obtain ⟨m, rfl⟩ : ∃ j, m = j + 1 := ⟨m - 1, by omega⟩
    have hr : s.rest = [] := List.eq_nil_of_length_eq_zero hk
    rw [loopW_stop]
    simp [M.at_.m_ok (m := "left") rfl]
    rw [left_at R (by omega) M.at_]
    simp [eqT_nil, hr]
    refine q many st f kD ?_
    rw [hr]; exact M
  | k + 1, c, s, st, f, kD, m, many, hk, hs, hc, hm, M, q => by
    obtain ⟨m, rfl⟩ : ∃ j, m = j + 1 := ⟨m - 1, by omega⟩
    cases hr : s.rest with
    | nil => rw [hr] at hk; simp at hk
    | cons p l =>
      have h1 := stepM_ok hb hs hr
      rw [loopW_stop]
      simp [M.at_.m_ok (m := "left") rfl]
      rw [left_at R (by omega) M.at_]
      simp [eqT_nil, hr]
      rw [hr] at q
      have erun : (runC b s.share (p :: l) s.co).1 = (stepC b s.share s.co p).2.1 :: (runC b s.share l (stepC b s.share s.co p).1).1 := rfl
      rw [erun] at q
      unfold cutR at q
      by_cases hlt : many < most
      · rw [if_pos hlt] at q
        simp [hlt, M.at_.m_ok (m := "step") rfl]
        refine wp_go (step_at R (n := n) hn hb hs (by omega) M hr) fun d st1 ⟨ed, f1, kD1, M1⟩ => ?_
        have e2 : (stepM b s).2 = (stepC b s.share s.co p).2.1 := by rw [stepM_C b hr]
        have e3 : (stepM b s).1.co = (stepC b s.share s.co p).1 := by rw [stepM_C b hr]; rfl
        have hix : idxT st1 d (.int 1) = some (.str (stepM b s).2.word) := by rw [ed]; simp [RowT.d]
        rw [hix]
        simp [hB]
        have hcast : ((many : Int) + (if (stepM b s).2.word = "bad" ∨ (stepM b s).2.word = "broken" then 1 else 0)) = ((many + if isBadW (stepM b s).2.word then 1 else 0 : Nat) : Int) := by
          unfold isBadW
          by_cases h : (stepM b s).2.word = "bad" ∨ (stepM b s).2.word = "broken" <;> simp [h]
        rw [hcast]
        refine till_loop R hn hb hB Q k (c + 25) (stepM b s).1 st1 f1 kD1 m _ (by rw [h1.2.1]; rw [hr] at hk; simpa using hk) h1.1 (by omega) (by omega) M1 ?_
        rw [h1.2.2.1, h1.2.1, e3, e2]
        exact q
      · rw [if_neg hlt] at q
        simp [hlt]
        exact q many st f kD M
theorem till_end {b : Book} {order : List Str} {sh : Bool} {j : Nat} (hj : j ≤ order.length) : resD (endM b (stepsM b j (freshM order sh))) = resR (runR b (order.take j) sh) := by
  rw [stepsM_C b j (freshM order sh) hj]
  have e := endM_C b { rest := (freshM order sh).rest.drop j, share := (freshM order sh).share, now := (runC b (freshM order sh).share ((freshM order sh).rest.take j) (freshM order sh).co).2.2.now, stand := (runC b (freshM order sh).share ((freshM order sh).rest.take j) (freshM order sh).co).2.2.stand, brok := (runC b (freshM order sh).share ((freshM order sh).rest.take j) (freshM order sh).co).2.2.brok, told := (freshM order sh).told ++ (runC b (freshM order sh).share ((freshM order sh).rest.take j) (freshM order sh).co).1, bad := (freshM order sh).bad ++ (runC b (freshM order sh).share ((freshM order sh).rest.take j) (freshM order sh).co).2.1, over := (freshM order sh).over }
  unfold resD
  rw [e.1, e.2.1, e.2.2.1]
  rfl
theorem till_at (R : RunT T gc) (hR : T.get "run_till" = some k_p_run_till) (hB : gc "BAD" = some (.tup [.str "bad", .str "broken"])) (hn : 23 < n) (hb : b.run KS) {order : List Str} {sh : Bool} (ho : ∀ p ∈ order, p ∈ b.rows.map Row.path) (hl : order.length ≤ 2000) (most : Nat) (P : D → Sto → Prop) (E : Str → Sto → Prop) :
    wp (cfN T gc n "run_till" [b.d, sD order, .bl sh, .int (most : Nat)]) st P E = P (resR (runR b (order.take (cutR most 0 (runC b sh order .nil).1)) sh)) st := by
  refine wp_det ?_ P E
  obtain ⟨n, rfl⟩ : ∃ k, n = k + 1 := ⟨n - 1, by omega⟩
  rw [w_fn hR]
  have hs0 := fresh_ok (KS := KS) (sh := sh) ho
  have hj : cutR most 0 (runC b sh order .nil).1 ≤ order.length := by
    have := cutR_le most (runC b sh order .nil).1 0
    rw [runC_len] at this; exact this
  simp [k_p_run_till]
  rw [init_at R (by omega)]
  simp
  refine till_loop R (by omega) hb hB _ order.length 0 (freshM order sh) _ _ _ 10000 0 rfl hs0 (by omega) (by omega) (new_mid st b order sh) fun many st1 f1 kD1 M1 => ?_
  have M1 : Mid st [] st1 st.length b (stepsM b (cutR most 0 (runC b sh order .nil).1) (freshM order sh)) f1 kD1 := M1
  have h1 := stepsM_ok hb (cutR most 0 (runC b sh order .nil).1) hs0 hj
  simp [M1.at_.m_ok (m := "end") rfl]
  refine wp_go (end_at R (n := n) (by omega) hb h1.1 (by omega) M1 h1.2.2.2) fun d st2 ⟨_, f2, kD2, M2⟩ => ?_
  have h2 := (endM_ok hb h1.1).1
  have ht := h2.told
  have hbd := h2.bad
  have hw := h2.now.len hb.ks
  simp [M2.at_.m_ok (m := "rows") rfl, M2.at_.m_ok (m := "spoilt") rfl, M2.at_.m_ok (m := "world") rfl]
  rw [rows_at R (by omega) M2.at_ (by omega)]
  simp [M2.at_.m_ok (m := "spoilt") rfl]
  rw [spoilt_at R (by omega) M2.at_ (by omega)]
  simp [M2.at_.m_ok (m := "world") rfl]
  rw [world_at R (by omega) M2.at_ hw]
  rw [fnQ_drop (fun i e => by cases e) ?_ (.inl M2.back)]
  · exact ⟨till_end hj, M2.back⟩
  · exact resD_rlt _ _
end
end TB
set_option Elab.async false
set_option linter.all false
set_option maxRecDepth 100000
set_option maxHeartbeats 4000000
/-! TB64: texts of wishes, read -/
namespace TB
open PySem PySem.Spec L2
def lowc (c : Nat) : Bool := decide (97 ≤ c ∧ c ≤ 122)
def wdL (l : List Nat) : List Nat := l.takeWhile lowc
def wdR (l : List Nat) : List Nat := l.dropWhile lowc
def toS (l : List Nat) : Str := ⟨l.toArray⟩
@[simp] theorem cs_toS (l : List Nat) : cs (toS l) = l := by simp [cs, toS]
@[simp] theorem toS_cs (x : Str) : toS (cs x) = x := by
  cases x; simp [cs, toS]
theorem toS_len (l : List Nat) : (toS l).length = l.length := by simp [toS, Str.length]
theorem toS_app (a b : List Nat) : toS a ++ toS b = toS (a ++ b) := by
  show (⟨a.toArray ++ b.toArray⟩ : Str) = _
  simp [toS]
theorem toS_inj {a b : List Nat} (h : toS a = toS b) : a = b := by rw [← cs_toS a, h, cs_toS]
def rWord (l : List Nat) : Option (Str × List Nat) := if 1 ≤ (wdL l).length ∧ (wdL l).length ≤ 5 then some (toS (wdL l), wdR l) else none
def both2 (s : Nat) (a b : Wish) : Wish := if s = 38 then .and a b else .or a b
def rWish : Nat → List Nat → Option (Wish × List Nat)
  | 0, _ => none
  | _ + 1, [] => none
  | n + 1, c :: r =>
    if c = 33 then (rWish n r).map fun p => (.not p.1, p.2)
    else if c = 126 then (rWord r).map fun p => (.name p.1, p.2)
    else if c = 40 then (match rWish n r with
      | some (a, s :: q) => if s = 38 ∨ s = 124 then (match rWish n q with
        | some (b, t :: z) => if t = 41 then some (both2 s a b, z) else none
        | _ => none) else none
      | _ => none)
    else (rWord (c :: r)).map fun p => (.mark p.1, p.2)
theorem wd_app (l : List Nat) : wdL l ++ wdR l = l := List.takeWhile_append_dropWhile
theorem rWord_suf {l : List Nat} {x : Str} {q : List Nat} (h : rWord l = some (x, q)) : q <:+ l := by
  unfold rWord at h
  split at h
  · cases h
    exact ⟨wdL l, wd_app l⟩
  · cases h
theorem rWish_suf : ∀ {n : Nat} {l : List Nat} {w : Wish} {q : List Nat}, rWish n l = some (w, q) → q <:+ l ∧ w.deep ≤ n
  | 0, _, _, _, h => by simp [rWish] at h
  | _ + 1, [], _, _, h => by simp [rWish] at h
  | n + 1, c :: r, w, q, h => by
    unfold rWish at h
    split at h
    · obtain ⟨⟨w1, q1⟩, h1, h2⟩ := Option.map_eq_some_iff.mp h
      cases h2
      obtain ⟨a, b⟩ := rWish_suf h1
      exact ⟨a.trans (List.suffix_cons c r), by simp [Wish.deep]; omega⟩
    · split at h
      · obtain ⟨⟨w1, q1⟩, h1, h2⟩ := Option.map_eq_some_iff.mp h
        cases h2
        exact ⟨(rWord_suf h1).trans (List.suffix_cons c r), by simp [Wish.deep]⟩
      · split at h
        · split at h
          · rename_i a s q1 h1
            split at h
            · split at h
              · rename_i b t z h2
                split at h
                · cases h
                  obtain ⟨a1, b1⟩ := rWish_suf h1
                  obtain ⟨a2, b2⟩ := rWish_suf h2
                  refine ⟨?_, ?_⟩
                  · exact (((List.suffix_cons t q).trans a2).trans ((List.suffix_cons s q1).trans a1)).trans (List.suffix_cons c r)
                  · unfold both2
                    split <;> simp [Wish.deep] <;> omega
                · cases h
              · cases h
            · cases h
          · cases h
        · obtain ⟨⟨w1, q1⟩, h1, h2⟩ := Option.map_eq_some_iff.mp h
          cases h2
          exact ⟨rWord_suf h1, by simp [Wish.deep]⟩
/-- the text of a wish -/
def Wish.txt : Wish → List Nat
  | .mark x => cs x
  | .name x => 126 :: cs x
  | .not w => 33 :: w.txt
  | .and a b => 40 :: (a.txt ++ 38 :: (b.txt ++ [41]))
  | .or a b => 40 :: (a.txt ++ 124 :: (b.txt ++ [41]))
def wOk (x : Str) : Prop := (1 ≤ (cs x).length ∧ (cs x).length ≤ 5) ∧ ∀ c ∈ cs x, lowc c = true
instance (x : Str) : Decidable (wOk x) := by unfold wOk; exact inferInstance
def Wish.wok : Wish → Prop
  | .mark x => wOk x
  | .name x => wOk x
  | .not w => w.wok
  | .and a b => a.wok ∧ b.wok
  | .or a b => a.wok ∧ b.wok
theorem wmL_ok : ∀ x ∈ wmL, wOk x := by decide +kernel
theorem wnL_ok : ∀ x ∈ wnL, wOk x := by decide +kernel
theorem Wish.ok.wok : ∀ {w : Wish}, w.ok → w.wok
  | .mark x, h => wmL_ok x h
  | .name x, h => wnL_ok x h
  | .not w, h => Wish.ok.wok (w := w) h
  | .and a b, h => ⟨Wish.ok.wok h.1, Wish.ok.wok h.2⟩
  | .or a b, h => ⟨Wish.ok.wok h.1, Wish.ok.wok h.2⟩
def noLow (r : List Nat) : Prop := ∀ c q, r = c :: q → lowc c = false
theorem noLow_cons {c : Nat} {q : List Nat} (h : lowc c = false) : noLow (c :: q) := fun c' q' e => by cases e; exact h
theorem noLow_nil : noLow [] := fun c q e => by cases e
theorem wd_of {a r : List Nat} (h : ∀ c ∈ a, lowc c = true) (hr : noLow r) : wdL (a ++ r) = a ∧ wdR (a ++ r) = r := by
  unfold wdL wdR
  rw [List.takeWhile_append_of_pos h, List.dropWhile_append_of_pos h]
  cases r with
  | nil => simp
  | cons c q =>
    have := hr c q rfl
    simp [this]
theorem rWord_app {x : Str} {r : List Nat} (h : wOk x) (hr : noLow r) : rWord (cs x ++ r) = some (x, r) := by
  unfold rWord
  obtain ⟨e1, e2⟩ := wd_of h.2 hr
  rw [e1, e2, if_pos h.1, toS_cs]
theorem rWish_txt : ∀ (w : Wish) (n : Nat) (r : List Nat), w.wok → w.deep ≤ n → noLow r → rWish n (w.txt ++ r) = some (w, r)
  | .mark x, n, r, h, hd, hr => by
    obtain ⟨n, rfl⟩ : ∃ k, n = k + 1 := ⟨n - 1, by simp [Wish.deep] at hd; omega⟩
    have hx := rWord_app h hr
    simp only [Wish.txt]
    obtain ⟨⟨h1, h2⟩, h3⟩ := h
    match hc : cs x, h1, h3 with
    | [], h1, _ => simp at h1
    | c :: y, _, h3 =>
      have hl := h3 c List.mem_cons_self
      simp only [lowc, decide_eq_true_eq] at hl
      rw [hc] at hx
      rw [List.cons_append] at hx ⊢
      unfold rWish
      rw [if_neg (by omega), if_neg (by omega), if_neg (by omega), hx]
      rfl
  | .name x, n, r, h, hd, hr => by
    obtain ⟨n, rfl⟩ : ∃ k, n = k + 1 := ⟨n - 1, by simp [Wish.deep] at hd; omega⟩
    have hx := rWord_app h hr
    simp only [Wish.txt, List.cons_append]
    unfold rWish
    rw [if_neg (by omega), if_pos rfl, hx]
    rfl
  | .not w, n, r, h, hd, hr => by
    obtain ⟨n, rfl⟩ : ∃ k, n = k + 1 := ⟨n - 1, by simp [Wish.deep] at hd; omega⟩
    have hx := rWish_txt w n r h (by simp [Wish.deep] at hd; omega) hr
    simp only [Wish.txt, List.cons_append]
    unfold rWish
    rw [if_pos rfl, hx]
    rfl
  | .and a b, n, r, h, hd, hr => by
    obtain ⟨n, rfl⟩ : ∃ k, n = k + 1 := ⟨n - 1, by simp [Wish.deep] at hd; omega⟩
    have hd' : a.deep ≤ n ∧ b.deep ≤ n := by simp [Wish.deep] at hd; omega
    have h2 := rWish_txt b n (41 :: r) h.2 hd'.2 (noLow_cons (by decide))
    have h1 := rWish_txt a n (38 :: (b.txt ++ 41 :: r)) h.1 hd'.1 (noLow_cons (by decide))
    simp only [Wish.txt, List.cons_append, List.append_assoc, List.nil_append]
    unfold rWish
    rw [if_neg (by omega), if_neg (by omega), if_pos rfl, h1]
    dsimp only
    rw [if_pos (by omega), h2]
    simp [both2]
  | .or a b, n, r, h, hd, hr => by
    obtain ⟨n, rfl⟩ : ∃ k, n = k + 1 := ⟨n - 1, by simp [Wish.deep] at hd; omega⟩
    have hd' : a.deep ≤ n ∧ b.deep ≤ n := by simp [Wish.deep] at hd; omega
    have h2 := rWish_txt b n (41 :: r) h.2 hd'.2 (noLow_cons (by decide))
    have h1 := rWish_txt a n (124 :: (b.txt ++ 41 :: r)) h.1 hd'.1 (noLow_cons (by decide))
    simp only [Wish.txt, List.cons_append, List.append_assoc, List.nil_append]
    unfold rWish
    rw [if_neg (by omega), if_neg (by omega), if_pos rfl, h1]
    dsimp only
    rw [if_pos (by omega), h2]
    simp [both2]
theorem Wish.txt_len : ∀ (w : Wish), w.wok → w.txt.length + 3 ≤ 5 * 2 ^ w.deep
  | .mark x, h => by
    have := h.1
    simp [Wish.txt, Wish.deep]; omega
  | .name x, h => by
    have := h.1
    simp [Wish.txt, Wish.deep]; omega
  | .not w, h => by
    have h1 := Wish.txt_len w h
    simp only [Wish.txt, Wish.deep, List.length_cons, Nat.pow_succ]
    have : 1 ≤ 2 ^ w.deep := Nat.one_le_two_pow
    omega
  | .and a b, h => by
    have h1 := Wish.txt_len a h.1
    have h2 := Wish.txt_len b h.2
    have e1 : 2 ^ a.deep ≤ 2 ^ max a.deep b.deep := Nat.pow_le_pow_right (by omega) (by omega)
    have e2 : 2 ^ b.deep ≤ 2 ^ max a.deep b.deep := Nat.pow_le_pow_right (by omega) (by omega)
    simp only [Wish.txt, Wish.deep, List.length_cons, List.length_append, List.length_nil, Nat.pow_succ]
    omega
  | .or a b, h => by
    have h1 := Wish.txt_len a h.1
    have h2 := Wish.txt_len b h.2
    have e1 : 2 ^ a.deep ≤ 2 ^ max a.deep b.deep := Nat.pow_le_pow_right (by omega) (by omega)
    have e2 : 2 ^ b.deep ≤ 2 ^ max a.deep b.deep := Nat.pow_le_pow_right (by omega) (by omega)
    simp only [Wish.txt, Wish.deep, List.length_cons, List.length_append, List.length_nil, Nat.pow_succ]
    omega
end TB
set_option Elab.async false
set_option linter.all false
set_option maxRecDepth 100000
set_option maxHeartbeats 4000000
/-! TB65: the reader -/
namespace TB
open PySem PySem.Spec L2
def k_p_is_word' : Def := ⟨"is_word", ["thing"], ["thing", "sign"],
  (.cons (.ret (.band (.cons (.isi .str (.var 0)) (.cons (.chain .LtE .LtE (.int 1) (.blt .len (.var 0)) (.glob "WORD_MOST")) (.cons (.blt .all (.lc false [("sign", 1)] (.one 1) (.seq (.var 0)) .none (.cmp .In (.var 1) (.glob "LETTERS")))) .nil)))))
  .nil)⟩
def k_p_text_of : Def := ⟨"text_of", ["wish"], ["wish", "sign"],
  (.cons (.ife (.cmp .Eq (.idx (.var 0) (.int 0)) (.str "mark"))
   (.cons (.ret (.idx (.var 0) (.int 1)))
   .nil)
   .nil)
  (.cons (.ife (.cmp .Eq (.idx (.var 0) (.int 0)) (.str "name"))
   (.cons (.ret (.bin (.add false) (.str "~") (.idx (.var 0) (.int 1))))
   .nil)
   .nil)
  (.cons (.ife (.cmp .Eq (.idx (.var 0) (.int 0)) (.str "not"))
   (.cons (.ret (.bin (.add false) (.str "!") (.call "text_of" 1 (.cons (.idx (.var 0) (.int 1)) .nil))))
   .nil)
   .nil)
  (.cons (.asg (.one 1) (.idx (.dsp [.inr "and", .inr "or"] (.cons (.str "&") (.cons (.str "|") .nil))) (.idx (.var 0) (.int 0))))
  (.cons (.ret (.bin (.add false) (.bin (.add false) (.bin (.add false) (.bin (.add false) (.str "(") (.call "text_of" 1 (.cons (.idx (.var 0) (.int 1)) .nil))) (.var 1)) (.call "text_of" 1 (.cons (.idx (.var 0) (.int 2)) .nil))) (.str ")")))
  .nil)))))⟩

def k_p_Reader_init : Def := ⟨"Reader.__init__", ["self", "text"], ["self", "text"],
  (.cons (.fput "Reader" "text" (.var 0) (.var 1))
  (.cons (.fput "Reader" "at" (.var 0) (.int 0))
  .nil))⟩

def k_p_Reader_sign : Def := ⟨"Reader.sign", ["self"], ["self"],
  (.cons (.ret (.slc false (.fld "Reader" "text" (.var 0)) (.some (.fld "Reader" "at" (.var 0))) (.some (.bin (.add false) (.fld "Reader" "at" (.var 0)) (.int 1)))))
  .nil)⟩

def k_p_Reader_pass_sign : Def := ⟨"Reader.pass_sign", ["self", "signs"], ["self", "signs", "found"],
  (.cons (.asg (.one 2) (.meth "Reader" "sign" "Reader.sign" 1 (.var 0) .nil))
  (.cons (.ife (.bor (.cons (.cmp .Eq (.var 2) (.str "")) (.cons (.cmp .NotIn (.var 2) (.var 1)) .nil)))
   (.cons (.raise "NoText")
   .nil)
   .nil)
  (.cons (.fput "Reader" "at" (.var 0) (.bin (.add true) (.fld "Reader" "at" (.var 0)) (.int 1)))
  (.cons (.ret (.var 2))
  .nil))))⟩

def k_p_Reader_word : Def := ⟨"Reader.word", ["self"], ["self", "first"],
  (.cons (.asg (.one 1) (.fld "Reader" "at" (.var 0)))
  (.cons (.whl 10000 (.chain .LtE .LtE (.str "a") (.meth "Reader" "sign" "Reader.sign" 1 (.var 0) .nil) (.str "z"))
   (.cons (.fput "Reader" "at" (.var 0) (.bin (.add true) (.fld "Reader" "at" (.var 0)) (.int 1)))
   .nil))
  (.cons (.ife (.not (.call "is_word" 1 (.cons (.slc false (.fld "Reader" "text" (.var 0)) (.some (.var 1)) (.some (.fld "Reader" "at" (.var 0)))) .nil)))
   (.cons (.raise "NoText")
   .nil)
   .nil)
  (.cons (.ret (.slc false (.fld "Reader" "text" (.var 0)) (.some (.var 1)) (.some (.fld "Reader" "at" (.var 0)))))
  .nil))))⟩

def k_p_Reader_wish : Def := ⟨"Reader.wish", ["self", "deep"], ["self", "deep", "one", "sign", "other"],
  (.cons (.ife (.cmp .Eq (.var 1) (.int 0))
   (.cons (.raise "NoText")
   .nil)
   .nil)
  (.cons (.ife (.cmp .Eq (.meth "Reader" "sign" "Reader.sign" 1 (.var 0) .nil) (.str "!"))
   (.cons (.fput "Reader" "at" (.var 0) (.bin (.add true) (.fld "Reader" "at" (.var 0)) (.int 1)))
   (.cons (.ret (.tup (.cons (.str "not") (.cons (.meth "Reader" "wish" "Reader.wish" 2 (.var 0) (.cons (.bin .sub (.var 1) (.int 1)) .nil)) .nil))))
   .nil))
   .nil)
  (.cons (.ife (.cmp .Eq (.meth "Reader" "sign" "Reader.sign" 1 (.var 0) .nil) (.str "~"))
   (.cons (.fput "Reader" "at" (.var 0) (.bin (.add true) (.fld "Reader" "at" (.var 0)) (.int 1)))
   (.cons (.ret (.tup (.cons (.str "name") (.cons (.meth "Reader" "word" "Reader.word" 1 (.var 0) .nil) .nil))))
   .nil))
   .nil)
  (.cons (.ife (.cmp .NotEq (.meth "Reader" "sign" "Reader.sign" 1 (.var 0) .nil) (.str "("))
   (.cons (.ret (.tup (.cons (.str "mark") (.cons (.meth "Reader" "word" "Reader.word" 1 (.var 0) .nil) .nil))))
   .nil)
   .nil)
  (.cons (.fput "Reader" "at" (.var 0) (.bin (.add true) (.fld "Reader" "at" (.var 0)) (.int 1)))
  (.cons (.asg (.one 2) (.meth "Reader" "wish" "Reader.wish" 2 (.var 0) (.cons (.bin .sub (.var 1) (.int 1)) .nil)))
  (.cons (.asg (.one 3) (.meth "Reader" "pass_sign" "Reader.pass_sign" 2 (.var 0) (.cons (.str "&|") .nil)))
  (.cons (.asg (.one 4) (.meth "Reader" "wish" "Reader.wish" 2 (.var 0) (.cons (.bin .sub (.var 1) (.int 1)) .nil)))
  (.cons (.expr (.meth "Reader" "pass_sign" "Reader.pass_sign" 2 (.var 0) (.cons (.str ")") .nil)))
  (.cons (.ret (.tup (.cons (.idx (.dsp [.inr "&", .inr "|"] (.cons (.str "and") (.cons (.str "or") .nil))) (.var 3)) (.cons (.var 2) (.cons (.var 4) .nil)))))
  .nil))))))))))⟩

def k_p_read : Def := ⟨"read", ["text"], ["text", "reader", "found"],
  (.cons (.asg (.one 1) (.mk "Reader" "Reader.__init__" 2 (.cons (.var 0) .nil)))
  (.cons (.asg (.one 2) (.meth "Reader" "wish" "Reader.wish" 2 (.var 1) (.cons (.glob "DEEP_MOST") .nil)))
  (.cons (.ife (.cmp .NotEq (.fld "Reader" "at" (.var 1)) (.blt .len (.var 0)))
   (.cons (.raise "NoText")
   .nil)
   .nil)
  (.cons (.ret (.var 2))
  .nil))))⟩


structure RdT (T : Tab) (gc : Str → Option D) : Prop where
  is_word : T.get "is_word" = some k_p_is_word'
  init : T.get "Reader.__init__" = some k_p_Reader_init
  sign : T.get "Reader.sign" = some k_p_Reader_sign
  pass : T.get "Reader.pass_sign" = some k_p_Reader_pass_sign
  word : T.get "Reader.word" = some k_p_Reader_word
  wish : T.get "Reader.wish" = some k_p_Reader_wish
  read : T.get "read" = some k_p_read
  text : T.get "text_of" = some k_p_text_of
  wm : gc "WORD_MOST" = some (.int 5)
  lt : gc "LETTERS" = some (.str "abcdefghijklmnopqrstuvwxyz")
  dm : gc "DEEP_MOST" = some (.int 6)
section
variable {T : Tab} {gc : Str → Option D} {n : Nat} {st : Sto} {P : D → Sto → Prop} {E : Str → Sto → Prop}
theorem sub_one (c : Nat) (p : Str) : subS ⟨#[c]⟩ p = decide (c ∈ cs p) := by
  unfold subS
  rw [StrLaws.found_one]
  simp [cs]
theorem sub_lets (c : Nat) : subS ⟨#[c]⟩ (Str.ofString "abcdefghijklmnopqrstuvwxyz") = lowc c := by
  rw [sub_one]
  unfold lowc
  have : cs (Str.ofString "abcdefghijklmnopqrstuvwxyz") = [97,98,99,100,101,102,103,104,105,106,107,108,109,110,111,112,113,114,115,116,117,118,119,120,121,122] := by decide +kernel
  rw [this]
  simp only [decide_eq_decide]
  simp
  omega
def wOkB (x : Str) : Bool := decide (1 ≤ (cs x).length ∧ (cs x).length ≤ 5) && (cs x).all lowc
theorem is_wd_at (R : RdT T gc) (hn : 0 < n) (z : Str) : wp (cfN T gc n "is_word" [.str z]) st P E = P (.bl (wOkB z)) st := by
  obtain ⟨n, rfl⟩ : ∃ k, n = k + 1 := ⟨n - 1, by omega⟩
  rw [w_fn R.is_word]
  have e : (cs z).length = z.length := by simp [cs, Str.length]
  simp [k_p_is_word', R.wm, R.lt]
  by_cases h1 : 1 ≤ z.length
  · by_cases h2 : z.length ≤ 5
    · rw [if_pos (by omega), if_pos (by omega)]
      rw [lc_map (fun d => [some (.str z), some d]) (fun d => match d with | .str x => .bl (x.cps.toList.all lowc) | _ => .non) (by trivial)]
      · have : (signs z).map (fun d => match d with | .str x => D.bl (x.cps.toList.all lowc) | _ => .non) = (cs z).map fun c => .bl (lowc c) := by
          unfold signs cs
          rw [List.map_map]
          apply List.map_congr_left
          intro c _
          simp
        rw [this]
        simp [boolsOf_map, wOkB, e, h1, h2]
        intro _; omega
      · intro d hd; rfl
      · intro d hd P
        unfold signs at hd
        obtain ⟨c, hc, rfl⟩ := List.mem_map.mp hd
        simp [R.lt, sub_lets]
    · rw [if_pos (by omega), if_neg (by omega)]
      have h3 : ¬ ((z.length : Int) ≤ 5) := by omega
      simp [wOkB, e, h2, h3]
  · rw [if_neg (by omega)]
    have h : ¬ 1 ≤ (cs z).length := by omega
    simp [wOkB, h]

def rdrO (z : Str) (q : List Nat) : MO := .ins "Reader" [("text", .str z), ("at", .int ((z.length - q.length : Nat) : Int))]
structure RAt (st : Sto) (i : Nat) (z : Str) (q : List Nat) : Prop where
  at_ : st[i]? = some (rdrO z q)
  suf : q <:+ cs z
variable {i : Nat} {z : Str} {q : List Nat}
theorem RAt.lt (h : RAt st i z q) : i < st.length := (List.getElem?_eq_some_iff.mp h.at_).1
theorem RAt.len (h : RAt st i z q) : q.length ≤ z.length := by
  have := h.suf.length_le
  simpa [cs, Str.length] using this
theorem RAt.set (h : RAt st i z q) {r : List Nat} (hr : r <:+ q) : RAt (st.set i (rdrO z r)) i z r := ⟨List.getElem?_set_self h.lt, hr.trans h.suf⟩
theorem RAt.same (h : RAt st i z q) : st.set i (rdrO z q) = st := by
  apply List.ext_getElem?
  intro j
  by_cases e : i = j
  · subst e; rw [List.getElem?_set_self h.lt, h.at_]
  · rw [List.getElem?_set_ne e]
theorem RAt.drop (h : RAt st i z q) : (cs z).drop (z.length - q.length) = q := by
  have := List.suffix_iff_eq_drop.mp h.suf
  have e : (cs z).length = z.length := by simp [cs, Str.length]
  rw [e] at this
  exact this.symm
theorem rd_text (h : RAt st i z q) : fldT "Reader" "text" st (.ref i) = some (.str z) := (fld_ins h.at_).trans rfl
theorem rd_at (h : RAt st i z q) : fldT "Reader" "at" st (.ref i) = some (.int ((z.length - q.length : Nat) : Int)) := (fld_ins h.at_).trans rfl
theorem rd_ins {m : Str} (h : RAt st i z q) (hm : List.lookup m [("text", D.str z), ("at", .int ((z.length - q.length : Nat) : Int))] = none) : insOk "Reader" m st (.ref i) = true := insOk_ins h.at_ hm
theorem rd_sign (h : RAt st i z q) : insOk "Reader" "sign" st (.ref i) = true := rd_ins h rfl
theorem rd_pass (h : RAt st i z q) : insOk "Reader" "pass_sign" st (.ref i) = true := rd_ins h rfl
theorem rd_word (h : RAt st i z q) : insOk "Reader" "word" st (.ref i) = true := rd_ins h rfl
theorem rd_wish (h : RAt st i z q) : insOk "Reader" "wish" st (.ref i) = true := rd_ins h rfl
theorem rd_put {c : Nat} {r : List Nat} {PU : Unit → Sto → Prop} (h : RAt st i z (c :: r)) : wp (fputT "Reader" "at" (.ref i) (.int (((z.length - (r.length + 1) : Nat) : Int) + 1))) st PU E = PU () (st.set i (rdrO z r)) := by
  rw [w_fput h.at_ (by simp)]
  have := h.len
  have e : ((z.length - (r.length + 1) : Nat) : Int) + 1 = ((z.length - r.length : Nat) : Int) := by simp at this ⊢; omega
  rw [e]
  rfl
theorem cut_one (h : RAt st i z q) : cutS z (some ((z.length - q.length : Nat) : Int)) (some (((z.length - q.length : Nat) : Int) + 1)) = toS (q.take 1) := by
  unfold cutS
  have e1 : HT.sIx z.length 0 (some ((z.length - q.length : Nat) : Int)) = z.length - q.length := by
    rw [HT.sIx_nat]; omega
  have e2 : HT.sIx z.length z.length (some (((z.length - q.length : Nat) : Int) + 1)) = min (z.length - q.length + 1) z.length := HT.sIx_nat _ _ _
  rw [e1, e2]
  have hd : z.cps.toList.drop (z.length - q.length) = q := h.drop
  rw [hd]
  have := h.len
  unfold toS
  congr 2
  cases q with
  | nil => simp
  | cons c r => simp at this ⊢; rw [show min (z.length - (r.length + 1) + 1) z.length - (z.length - (r.length + 1)) = 1 by omega]; rfl
theorem q_slc_str {m : Bool} {x : Str} {lo hi : Option Int} : wp (slcT m (.str x) lo hi) st P E = P (.str (cutS x lo hi)) st := rfl
theorem sign_at (R : RdT T gc) (hn : 0 < n) (h : RAt st i z q) : wp (cfN T gc n "Reader.sign" [.ref i]) st P E = P (.str (toS (q.take 1))) st := by
  obtain ⟨n, rfl⟩ : ∃ k, n = k + 1 := ⟨n - 1, by omega⟩
  rw [w_fn R.sign]
  simp [k_p_Reader_sign, rd_text h, rd_at h, q_slc_str, cut_one h]
  rw [fnQ_rt rfl (fun i e => by cases e)]
theorem fnQ_exl {st st1 : Sto} {c : Str} {ρ : Lo} (h : st1.length = st.length) : fnQ st P E (.ex c ρ) st1 = E c st1 := by
  show wp _ _ _ _ = _
  unfold wp dropM
  dsimp only
  rw [← h, List.take_length, ite_self]
theorem pass_at (R : RdT T gc) (hn : 1 < n) (h : RAt st i z q) (p : Str) : wp (cfN T gc n "Reader.pass_sign" [.ref i, .str p]) st P E = (match q with
    | c :: r => if c ∈ cs p then P (.str (toS [c])) (st.set i (rdrO z r)) else E "NoText" st
    | [] => E "NoText" st) := by
  obtain ⟨n, rfl⟩ : ∃ k, n = k + 1 := ⟨n - 1, by omega⟩
  rw [w_fn R.pass]
  simp [k_p_Reader_pass_sign, rd_sign h, sign_at R (show 0 < n by omega) h]
  cases q with
  | nil =>
    have e : toS [] = Str.ofString "" := by decide +kernel
    simp [e, fnQ_ex]
  | cons c r =>
    have e : ¬ toS ((c :: r).take 1) = Str.ofString "" := fun z => by
      have := congrArg cs z
      simp at this
      exact absurd this (by simp [show cs (Str.ofString "") = [] by decide +kernel])
    have e2 : subS (toS ((c :: r).take 1)) p = decide (c ∈ cs p) := sub_one c p
    simp only [e, e2]
    by_cases hc : c ∈ cs p
    · simp [hc, rd_at h]
      rw [rd_put h, fnQ_rt (by simp) (fun i e => by cases e)]
    · simp [hc, fnQ_ex]

theorem ale_a (c : Nat) : ((Str.ofString "a").cps ≤ (toS [c]).cps) = (97 ≤ c) := by
  have e : (Str.ofString "a").cps = #[97] := by decide +kernel
  rw [e]
  show (¬ (toS [c]).cps < #[97]) = _
  rw [← Array.lt_toList]
  simp [toS, List.cons_lt_cons_iff]
theorem ale_z (c : Nat) : ((toS [c]).cps ≤ (Str.ofString "z").cps) = (c ≤ 122) := by
  have e : (Str.ofString "z").cps = #[122] := by decide +kernel
  rw [e]
  show (¬ #[122] < (toS [c]).cps) = _
  rw [← Array.lt_toList]
  simp [toS, List.cons_lt_cons_iff]
theorem ale_0 : ((Str.ofString "a").cps ≤ (toS []).cps) = False := by
  have e : (Str.ofString "a").cps = #[97] := by decide +kernel
  rw [e]
  show (¬ (toS []).cps < #[97]) = _
  rw [← Array.lt_toList]
  simp [toS]
/-- the letters that come are passed -/
theorem word_loop (R : RdT T gc) (hn : 0 < n) {Q : Out → Sto → Prop} {ρ : Lo} (hρ : ρ[0]? = some (some (.ref i))) : ∀ (q : List Nat) (f : Nat) (st : Sto), RAt st i z q → (wdL q).length < f → Q (.nx ρ) (st.set i (rdrO z (wdR q))) →
    wpS (loopW (tst (cfN T gc n) gc (.chain .LtE .LtE (.str "a") (.meth "Reader" "sign" "Reader.sign" 1 (.var 0) .nil) (.str "z"))) (exSs (cfN T gc n) gc (.cons (.fput "Reader" "at" (.var 0) (.bin (.add true) (.fld "Reader" "at" (.var 0)) (.int 1))) .nil)) f) ρ st Q
  | q, 0, _, _, hf, _ => by omega
  | [], f + 1, st, h, hf, hq => by
    rw [loopW_stop]
    simp [hρ, rd_sign h, sign_at R hn h, ale_0]
    have := h.same
    simp [wdR] at hq
    rw [this] at hq
    exact hq
  | c :: r, f + 1, st, h, hf, hq => by
    rw [loopW_stop]
    simp [hρ, rd_sign h, sign_at R hn h, ale_a, ale_z]
    by_cases h1 : 97 ≤ c
    · by_cases h2 : c ≤ 122
      · have hl : lowc c = true := by simp [lowc, h1, h2]
        simp [h1, h2, hρ, rd_at h]
        rw [rd_put h]
        refine word_loop R hn hρ r f _ (h.set (List.suffix_cons c r)) ?_ ?_
        · simp [wdL, hl] at hf
          simpa [wdL] using hf
        · simp [wdR, hl] at hq
          simpa [wdR] using hq
      · have hl : lowc c = false := by simp [lowc, h1, h2]
        simp [h1, h2]
        simp [wdR, hl, h.same] at hq
        exact hq
    · have hl : lowc c = false := by simp [lowc, h1]
      simp [h1]
      simp [wdR, hl, h.same] at hq
      exact hq
theorem cut_word (h : RAt st i z q) : cutS z (some ((z.length - q.length : Nat) : Int)) (some ((z.length - (wdR q).length : Nat) : Int)) = toS (wdL q) := by
  unfold cutS
  rw [HT.sIx_nat, HT.sIx_nat]
  have hl := h.len
  have e0 : (wdL q).length + (wdR q).length = q.length := by rw [← List.length_append, wd_app]
  rw [show min (z.length - q.length) z.length = z.length - q.length by omega, show min (z.length - (wdR q).length) z.length = z.length - (wdR q).length by omega]
  have hd : z.cps.toList.drop (z.length - q.length) = q := h.drop
  rw [hd, show z.length - (wdR q).length - (z.length - q.length) = (wdL q).length by omega]
  unfold toS
  congr 2
  calc List.take (wdL q).length q = List.take (wdL q).length (wdL q ++ wdR q) := by rw [wd_app]
    _ = wdL q := List.take_left
theorem wdR_suf (q : List Nat) : wdR q <:+ q := ⟨wdL q, wd_app q⟩
theorem wOkB_wd (q : List Nat) : wOkB (toS (wdL q)) = decide (1 ≤ (wdL q).length ∧ (wdL q).length ≤ 5) := by
  unfold wOkB
  rw [cs_toS]
  have : (wdL q).all lowc = true := by
    unfold wdL
    rw [List.all_eq_true]
    intro c hc
    have := List.all_takeWhile (l := q) (p := lowc)
    exact List.all_eq_true.mp this c hc
  rw [this, Bool.and_true]

/-- a run ends so: in any way that is asked -/
def resP {τ : Type} (r : Res τ) (s' : Sto) (P : τ → Sto → Prop) (E : Str → Sto → Prop) : Prop := match r with
  | .ok d => P d s'
  | .exn c => E c s'
theorem wp_eq {τ : Type} {m : M τ} {P : τ → Sto → Prop} {E : Str → Sto → Prop} {r : Res τ} {s' : Sto} (h : wp m st (fun d s1 => r = .ok d ∧ s1 = s') (fun c s1 => r = .exn c ∧ s1 = s')) : wp m st P E = resP r s' P E := by
  revert h
  unfold wp
  rcases m st with _ | ⟨t | c', s1⟩ <;> intro h
  · exact h.elim
  · obtain ⟨rfl, rfl⟩ := h
    rfl
  · obtain ⟨rfl, rfl⟩ := h
    rfl
def wordRes (q : List Nat) : Res D := match rWord q with
  | some (x, _) => .ok (.str x)
  | none => .exn "NoText"
theorem word_at (R : RdT T gc) (hn : 1 < n) (h : RAt st i z q) (hf : (wdL q).length < 10000) : wp (cfN T gc n "Reader.word" [.ref i]) st P E = (match rWord q with
    | some (x, r) => P (.str x) (st.set i (rdrO z r))
    | none => E "NoText" (st.set i (rdrO z (wdR q)))) := by
  have key : wp (cfN T gc n "Reader.word" [.ref i]) st (fun d s1 => wordRes q = .ok d ∧ s1 = st.set i (rdrO z (wdR q))) (fun c s1 => wordRes q = .exn c ∧ s1 = st.set i (rdrO z (wdR q))) := by
    obtain ⟨n, rfl⟩ : ∃ k, n = k + 1 := ⟨n - 1, by omega⟩
    rw [w_fn R.word]
    have h1 := h.set (wdR_suf q)
    simp [k_p_Reader_word, rd_at h]
    refine word_loop R (by omega) (by rfl) q 10000 st h hf ?_
    simp [rd_text h1, rd_at h1, q_slc_str, cut_word h, is_wd_at R (show 0 < n by omega), wOkB_wd]
    by_cases hw : 1 ≤ (wdL q).length ∧ (wdL q).length ≤ 5
    · simp [hw]
      rw [fnQ_rt (by simp) (fun i e => by cases e)]
      simp [wordRes, rWord, hw]
    · simp [hw]
      rw [fnQ_exl (by simp)]
      simp [wordRes, rWord, hw]
  rw [wp_eq key]
  by_cases hw : 1 ≤ (wdL q).length ∧ (wdL q).length ≤ 5
  · simp [wordRes, rWord, hw, resP]
  · simp [wordRes, rWord, hw, resP]

theorem wdL_le (q : List Nat) : (wdL q).length ≤ q.length := by
  have : (wdL q).length + (wdR q).length = q.length := by rw [← List.length_append, wd_app]
  omega
theorem eS (a b : List Nat) : (toS a = toS b) = (a = b) := propext ⟨toS_inj, fun h => by rw [h]⟩
theorem s_bang : Str.ofString "!" = toS [33] := by decide +kernel
theorem s_til : Str.ofString "~" = toS [126] := by decide +kernel
theorem s_par : Str.ofString "(" = toS [40] := by decide +kernel
theorem s_amp : cs (Str.ofString "&|") = [38, 124] := by decide +kernel
theorem s_end : cs (Str.ofString ")") = [41] := by decide +kernel
theorem rwf {st : Sto} {i : Nat} {z : Str} {q : List Nat} (h : Wf st) : Wf (st.set i (rdrO z q)) := by
  intro o ho
  rw [List.length_set]
  rcases List.mem_or_eq_of_mem_set ho with ho | rfl
  · exact h o ho
  · rfl
/-- the wish that comes -/
theorem rwish_at (R : RdT T gc) (hz : z.length < 10000) : ∀ (deep n : Nat) (q : List Nat) (st : Sto), deep + 2 < n → Wf st → RAt st i z q →
    wp (cfN T gc n "Reader.wish" [.ref i, .int deep]) st (fun d s1 => ∃ w r, rWish deep q = some (w, r) ∧ d = w.d ∧ s1 = st.set i (rdrO z r)) (fun c s1 => c = "NoText" ∧ rWish deep q = none ∧ ∃ r, r <:+ q ∧ s1 = st.set i (rdrO z r))
  | 0, n, q, st, hn, hw, h => by
    obtain ⟨n, rfl⟩ : ∃ k, n = k + 1 := ⟨n - 1, by omega⟩
    rw [w_fn R.wish]
    simp [k_p_Reader_wish]
    rw [fnQ_exl rfl]
    exact ⟨rfl, by cases q <;> rfl, q, List.suffix_refl q, h.same.symm⟩
  | deep + 1, n, q, st, hn, hw, h => by
    obtain ⟨n, rfl⟩ : ∃ k, n = k + 1 := ⟨n - 1, by omega⟩
    rw [w_fn R.wish]
    have e1 : ¬ ((deep : Int) + 1 = 0) := by omega
    have e2 : (deep : Int) + 1 - 1 = deep := by omega
    cases q with
    | nil =>
      simp [k_p_Reader_wish, e1, rd_sign h, rd_word h, sign_at R (show 0 < n by omega) h, s_bang, s_til, s_par, eS, word_at R (show 1 < n by omega) h (by simp [wdL]), rWord, wdL]
      rw [fnQ_exl (by simp)]
      exact ⟨rfl, rfl, rfl⟩
    | cons c r =>
      have hl := h.len
      have h1 := h.set (List.suffix_cons c r)
      have el : ∀ o : MO, ((st.set i o).length = st.length) := fun o => by simp
      have ss : ∀ o o' : MO, (st.set i o).set i o' = st.set i o' := fun o o' => by simp
      by_cases c1 : c = 33
      · simp [k_p_Reader_wish, e1, e2, rd_sign h, sign_at R (show 0 < n by omega) h, s_bang, eS, c1, rd_at h]
        rw [← c1, rd_put h, rd_wish h1]
        simp
        refine wp_mono (rwish_at R hz deep n r _ (by omega) (rwf hw) h1) ?_ ?_
        · rintro d s1 ⟨w, q', a1, rfl, rfl⟩
          rw [fnQ_rt (by simp) (fun i e => by cases e)]
          refine ⟨.not w, q', by simp [rWish, c1, a1], rfl, by simp⟩
        · rintro c' s1 ⟨rfl, a1, q', a2, rfl⟩
          rw [fnQ_exl (by simp)]
          exact ⟨rfl, by simp [rWish, c1, a1], q', a2.trans (List.suffix_cons c r), by simp⟩
      · by_cases c2 : c = 126
        · simp [k_p_Reader_wish, e1, e2, rd_sign h, sign_at R (show 0 < n by omega) h, s_bang, s_til, eS, c2, rd_at h]
          rw [← c2, rd_put h, rd_word h1]
          simp
          rw [word_at R (show 1 < n by omega) h1 (by have := wdL_le r; simp at hl; omega)]
          match hwd : rWord r with
          | some (x, q') =>
            simp
            rw [fnQ_rt (by simp) (fun i e => by cases e)]
            exact ⟨.name x, q', by simp [rWish, c2, hwd], rfl, rfl⟩
          | none =>
            simp
            rw [fnQ_exl (by simp)]
            exact ⟨rfl, by simp [rWish, c2, hwd], wdR r, (wdR_suf r).trans (List.suffix_cons c r), rfl⟩
        · by_cases c3 : c = 40
          · simp [k_p_Reader_wish, e1, e2, rd_sign h, sign_at R (show 0 < n by omega) h, s_bang, s_til, s_par, eS, c3, rd_at h]
            rw [← c3, rd_put h, rd_wish h1]
            simp
            refine wp_mono (rwish_at R hz deep n r _ (by omega) (rwf hw) h1) ?_ ?_
            · rintro d s1 ⟨a, q1, a1, rfl, rfl⟩
              have h2 := h1.set (rWish_suf a1).1
              rw [ss] at h2
              simp [rd_pass h2, pass_at R (show 1 < n by omega) h2, s_amp]
              cases q1 with
              | nil =>
                simp
                rw [fnQ_exl (by simp)]
                exact ⟨rfl, by simp [rWish, c3, a1], [], List.nil_suffix, rfl⟩
              | cons sg q2 =>
                simp
                by_cases c4 : sg = 38 ∨ sg = 124
                · rw [if_pos c4]
                  have h3 := h2.set (List.suffix_cons sg q2)
                  rw [ss] at h3
                  simp [rd_wish h3]
                  refine wp_mono (rwish_at R hz deep n q2 _ (by omega) (rwf hw) h3) ?_ ?_
                  · rintro d s1 ⟨b, q3, a3, rfl, rfl⟩
                    have h4 := h3.set (rWish_suf a3).1
                    rw [ss] at h4
                    simp [rd_pass h4, pass_at R (show 1 < n by omega) h4, s_end]
                    cases q3 with
                    | nil =>
                      simp
                      rw [fnQ_exl (by simp)]
                      refine ⟨rfl, ?_, [], List.nil_suffix, rfl⟩
                      unfold rWish
                      rw [if_neg (by omega), if_neg (by omega), if_pos c3, a1]
                      dsimp only
                      rw [if_pos c4, a3]
                    | cons t q4 =>
                      have suf4 : t :: q4 <:+ c :: r := ((rWish_suf a3).1.trans ((List.suffix_cons sg q2).trans (rWish_suf a1).1)).trans (List.suffix_cons c r)
                      simp
                      by_cases c5 : t = 41
                      · rw [if_pos c5]
                        have hv : valG (mergeG [] [(Sum.inr (Str.ofString "&"), D.str (Str.ofString "and")), (Sum.inr (Str.ofString "|"), D.str (Str.ofString "or"))]) (Sum.inr (toS [sg])) = some (.str (if sg = 38 then "and" else "or")) := by
                          rcases c4 with rfl | rfl <;> kernel_rfl
                        rw [hv, lk_some, fnQ_drop (fun i e => by cases e) (by simp [D.rlt, D.rlts, Wish.rlt]) (.inr ?_)]
                        · refine ⟨both2 sg a b, q4, ?_, ?_, ?_⟩
                          · unfold rWish
                            rw [if_neg (by omega), if_neg (by omega), if_pos c3, a1]
                            dsimp only
                            rw [if_pos c4, a3]
                            dsimp only
                            rw [if_pos c5]
                          · unfold both2
                            rcases c4 with rfl | rfl <;> rfl
                          · rw [List.take_append_of_le_length (by simp), List.take_of_length_le (by simp)]
                        · intro o ho
                          rw [List.take_append_of_le_length (by simp), List.take_of_length_le (by simp)] at ho
                          have := rwf (q := q4) (i := i) (z := z) hw o ho
                          simpa using this
                      · rw [if_neg c5, fnQ_exl (by simp)]
                        refine ⟨rfl, ?_, t :: q4, suf4, rfl⟩
                        unfold rWish
                        rw [if_neg (by omega), if_neg (by omega), if_pos c3, a1]
                        dsimp only
                        rw [if_pos c4, a3]
                        dsimp only
                        rw [if_neg c5]
                  · rintro c' s1 ⟨rfl, a3, q', a4, rfl⟩
                    rw [fnQ_exl (by simp)]
                    refine ⟨rfl, ?_, q', (a4.trans ((List.suffix_cons sg q2).trans (rWish_suf a1).1)).trans (List.suffix_cons c r), by simp⟩
                    unfold rWish
                    rw [if_neg (by omega), if_neg (by omega), if_pos c3, a1]
                    dsimp only
                    rw [if_pos c4, a3]
                · rw [if_neg c4, fnQ_exl (by simp)]
                  refine ⟨rfl, ?_, sg :: q2, (rWish_suf a1).1.trans (List.suffix_cons c r), rfl⟩
                  unfold rWish
                  rw [if_neg (by omega), if_neg (by omega), if_pos c3, a1]
                  dsimp only
                  rw [if_neg c4]
            · rintro c' s1 ⟨rfl, a1, q', a2, rfl⟩
              rw [fnQ_exl (by simp)]
              exact ⟨rfl, by simp [rWish, c3, a1], q', a2.trans (List.suffix_cons c r), by simp⟩
          · simp [k_p_Reader_wish, e1, e2, rd_sign h, sign_at R (show 0 < n by omega) h, s_bang, s_til, s_par, eS, c1, c2, c3, rd_word h]
            rw [word_at R (show 1 < n by omega) h (by have := wdL_le (c :: r); simp at hl this; omega)]
            match hwd : rWord (c :: r) with
            | some (x, q') =>
              simp
              rw [fnQ_rt (by simp) (fun i e => by cases e)]
              exact ⟨.mark x, q', by simp [rWish, c1, c2, c3, hwd], rfl, rfl⟩
            | none =>
              simp
              rw [fnQ_exl (by simp)]
              exact ⟨rfl, by simp [rWish, c1, c2, c3, hwd], wdR (c :: r), wdR_suf _, rfl⟩

theorem fnQ_exd {st st1 : Sto} {c : Str} {ρ : Lo} (h : st1.take st.length = st) : fnQ st P E (.ex c ρ) st1 = E c st := by
  show wp _ _ _ _ = _
  unfold wp dropM
  dsimp only
  rw [if_pos ⟨rfl, .inl h⟩, h]
/-- what is read: the wish, or refused -/
def readRes (z : Str) : Res D := match rWish 6 (cs z) with
  | some (w, []) => .ok w.d
  | _ => .exn "NoText"
theorem read_at (R : RdT T gc) (hn : 9 < n) (hw : Wf st) {z : Str} (hz : z.length < 10000) : wp (cfN T gc n "read" [.str z]) st P E = resP (readRes z) st P E := by
  have key : wp (cfN T gc n "read" [.str z]) st (fun d s1 => readRes z = .ok d ∧ s1 = st) (fun c s1 => readRes z = .exn c ∧ s1 = st) := by
    obtain ⟨n, rfl⟩ : ∃ k, n = k + 1 := ⟨n - 1, by omega⟩
    obtain ⟨m, rfl⟩ : ∃ k, n = k + 1 := ⟨n - 1, by omega⟩
    rw [w_fn R.read]
    simp [k_p_read]
    rw [w_fn R.init]
    simp [k_p_Reader_init]
    rw [w_fput (fs := []) (by simp) (by simp)]
    simp
    rw [w_fput (fs := fputG "text" (.str z) []) (by simp) (by simp [fputG])]
    simp
    rw [fnQ_nx (by simp)]
    have e0 : (MO.ins "Reader" (fputG "at" (.int 0) (fputG "text" (.str z) []))) = rdrO z (cs z) := by
      have : z.length - (cs z).length = 0 := by simp [cs, Str.length]
      unfold rdrO
      rw [this]
      rfl
    rw [e0]
    have hl : (st ++ [rdrO z (cs z)])[st.length]? = some (rdrO z (cs z)) := by simp
    have h0 : RAt (st ++ [rdrO z (cs z)]) st.length z (cs z) := ⟨hl, List.suffix_refl _⟩
    have hw1 : Wf (st ++ [rdrO z (cs z)]) := hw.push rfl
    have tk : ∀ r, ((st ++ [rdrO z (cs z)]).set st.length (rdrO z r)).take st.length = st := fun r => by simp
    simp [rd_wish h0, R.dm]
    refine wp_mono (rwish_at R hz 6 (m + 1) (cs z) _ (by omega) hw1 h0) ?_ ?_
    · rintro d s1 ⟨w, r, a1, rfl, rfl⟩
      have h1 := h0.set (rWish_suf a1).1
      have hl1 := h1.len
      simp only [set_end] at h1
      simp [rd_at h1]
      cases r with
      | nil =>
        simp
        rw [fnQ_drop (Wish.noref w) (Wish.rlt _ _) (.inl (by simp))]
        exact ⟨by simp [readRes, a1], by simp⟩
      | cons c r =>
        have e : ¬ ((z.length - (c :: r).length : Nat) : Int) = (z.length : Int) := by simp at hl1 ⊢; omega
        simp at e
        simp [e]
        rw [fnQ_exd (by simp)]
        exact ⟨by simp [readRes, a1], rfl⟩
    · rintro c s1 ⟨rfl, a1, r, a2, rfl⟩
      rw [fnQ_exd (by simp)]
      exact ⟨by simp [readRes, a1], rfl⟩
  rw [wp_eq key]

theorem add_toS {m : Bool} (a b : List Nat) (h : a.length + b.length ≤ 16777216) : wp (opAdd m (.str (toS a)) (.str (toS b))) st P E = P (.str (toS (a ++ b))) st := by
  rw [q_add_str (by rw [toS_len, toS_len]; exact h), toS_app]
theorem s_and1 : Str.ofString "&" = toS [38] := by decide +kernel
theorem s_or1 : Str.ofString "|" = toS [124] := by decide +kernel
theorem s_clo : Str.ofString ")" = toS [41] := by decide +kernel
theorem wtl {w : Wish} (h : w.wok) (hd : w.deep ≤ 20) : w.txt.length + 3 ≤ 5242880 := by
  have h1 := Wish.txt_len w h
  have h2 : 2 ^ w.deep ≤ 2 ^ 20 := Nat.pow_le_pow_right (by omega) hd
  have : 2 ^ 20 = 1048576 := by decide
  omega
theorem e_nm : ¬ Str.ofString "name" = Str.ofString "mark" := by decide +kernel
theorem e_tm : ¬ Str.ofString "not" = Str.ofString "mark" := by decide +kernel
theorem e_tn : ¬ Str.ofString "not" = Str.ofString "name" := by decide +kernel
theorem e_am : ¬ Str.ofString "and" = Str.ofString "mark" := by decide +kernel
theorem e_an : ¬ Str.ofString "and" = Str.ofString "name" := by decide +kernel
theorem e_at : ¬ Str.ofString "and" = Str.ofString "not" := by decide +kernel
theorem e_om : ¬ Str.ofString "or" = Str.ofString "mark" := by decide +kernel
theorem e_on : ¬ Str.ofString "or" = Str.ofString "name" := by decide +kernel
theorem e_ot : ¬ Str.ofString "or" = Str.ofString "not" := by decide +kernel
theorem e_oa : ¬ Str.ofString "or" = Str.ofString "and" := by decide +kernel
theorem v_and : valG (mergeG [] [(Sum.inr (Str.ofString "and"), D.str (toS [38])), (Sum.inr (Str.ofString "or"), D.str (toS [124]))]) (Sum.inr (Str.ofString "and") : Key) = some (.str (toS [38])) := by kernel_rfl
theorem v_or : valG (mergeG [] [(Sum.inr (Str.ofString "and"), D.str (toS [38])), (Sum.inr (Str.ofString "or"), D.str (toS [124]))]) (Sum.inr (Str.ofString "or") : Key) = some (.str (toS [124])) := by kernel_rfl
theorem text_at (R : RdT T gc) : ∀ (w : Wish) (n : Nat) (st : Sto) (P : D → Sto → Prop) (E : Str → Sto → Prop), w.wok → w.deep ≤ 20 → w.deep < n → wp (cfN T gc n "text_of" [w.d]) st P E = P (.str (toS w.txt)) st
  | .mark x, n, st, P, E, h, hd, hn => by
    obtain ⟨n, rfl⟩ : ∃ k, n = k + 1 := ⟨n - 1, by omega⟩
    rw [w_fn R.text]
    simp [k_p_text_of, Wish.d, Wish.txt]
    rw [fnQ_rt rfl (fun i e => by cases e)]
  | .name x, n, st, P, E, h, hd, hn => by
    obtain ⟨n, rfl⟩ : ∃ k, n = k + 1 := ⟨n - 1, by omega⟩
    rw [w_fn R.text]
    have hl := h.1
    simp [k_p_text_of, Wish.d, Wish.txt, e_nm, s_til]
    rw [show D.str x = D.str (toS (cs x)) by rw [toS_cs], add_toS _ _ (by simp; omega), fnQ_rt rfl (fun i e => by cases e)]
    rfl
  | .not w, n, st, P, E, h, hd, hn => by
    obtain ⟨n, rfl⟩ : ∃ k, n = k + 1 := ⟨n - 1, by omega⟩
    rw [w_fn R.text]
    simp only [Wish.deep] at hd hn
    have hl := wtl (w := w) h (by omega)
    simp [k_p_text_of, Wish.d, Wish.txt, e_tm, e_tn, s_bang, text_at R w n st _ _ h (by omega) (by omega)]
    rw [add_toS _ _ (by simp; omega), fnQ_rt rfl (fun i e => by cases e)]
    rfl
  | .and a b, n, st, P, E, h, hd, hn => by
    obtain ⟨n, rfl⟩ : ∃ k, n = k + 1 := ⟨n - 1, by omega⟩
    rw [w_fn R.text]
    simp only [Wish.deep] at hd hn
    have hl1 := wtl (w := a) h.1 (by omega)
    have hl2 := wtl (w := b) h.2 (by omega)
    simp [k_p_text_of, Wish.d, Wish.txt, e_am, e_an, e_at, s_par, s_and1, s_or1, s_clo, v_and]
    rw [text_at R a n _ _ _ h.1 (by omega) (by omega), add_toS _ _ (by simp; omega), add_toS _ _ (by simp; omega), text_at R b n _ _ _ h.2 (by omega) (by omega), add_toS _ _ (by simp; omega), add_toS _ _ (by simp; omega)]
    rw [fnQ_drop (fun i e => by cases e) rfl (.inl (by simp))]
    simp
  | .or a b, n, st, P, E, h, hd, hn => by
    obtain ⟨n, rfl⟩ : ∃ k, n = k + 1 := ⟨n - 1, by omega⟩
    rw [w_fn R.text]
    simp only [Wish.deep] at hd hn
    have hl1 := wtl (w := a) h.1 (by omega)
    have hl2 := wtl (w := b) h.2 (by omega)
    simp [k_p_text_of, Wish.d, Wish.txt, e_om, e_on, e_ot, s_par, s_and1, s_or1, s_clo, v_or]
    rw [text_at R a n _ _ _ h.1 (by omega) (by omega), add_toS _ _ (by simp; omega), add_toS _ _ (by simp; omega), text_at R b n _ _ _ h.2 (by omega) (by omega), add_toS _ _ (by simp; omega), add_toS _ _ (by simp; omega)]
    rw [fnQ_drop (fun i e => by cases e) rfl (.inl (by simp))]
    simp
end
def k_say : Def := ⟨"_law_say", ["wish"], ["wish"],
  (.cons (.ife (.cmp .In (.idx (.var 0) (.int 0)) (.tup (.cons (.str "mark") (.cons (.str "name") .nil))))
   (.cons (.ret (.bin (.add false) (.bin (.mul false) (.str "~") (.blt .int (.cmp .Eq (.idx (.var 0) (.int 0)) (.str "name")))) (.idx (.var 0) (.int 1))))
   .nil)
   .nil)
  (.cons (.ife (.cmp .Eq (.idx (.var 0) (.int 0)) (.str "not"))
   (.cons (.ret (.bin (.add false) (.str "!") (.call "_law_say" 1 (.cons (.idx (.var 0) (.int 1)) .nil))))
   .nil)
   .nil)
  (.cons (.ret (.bin (.add false) (.bin (.add false) (.bin (.add false) (.bin (.add false) (.str "(") (.call "_law_say" 1 (.cons (.idx (.var 0) (.int 1)) .nil))) (.ite (.cmp .Eq (.idx (.var 0) (.int 0)) (.str "and")) (.str "&") (.str "|"))) (.call "_law_say" 1 (.cons (.idx (.var 0) (.int 2)) .nil))) (.str ")")))
  .nil)))⟩

def k_read : Def := ⟨"_law_read", ["text", "left"], ["text", "left", "kind", "many", "one", "rest", "other", "last"],
  (.cons (.ife (.bor (.cons (.cmp .Eq (.var 1) (.int 0)) (.cons (.cmp .Eq (.var 0) (.str "")) .nil)))
   (.cons (.ret (.tup (.cons .non (.cons (.str "") .nil))))
   .nil)
   .nil)
  (.cons (.ife (.cmp .Eq (.idx (.var 0) (.int 0)) (.str "!"))
   (.cons (.asg (.tup [4, 5]) (.call "_law_read" 2 (.cons (.slc false (.var 0) (.some (.int 1)) .none) (.cons (.bin .sub (.var 1) (.int 1)) .nil))))
   (.cons (.ret (.tup (.cons (.ite (.cmp .IsNot (.var 4) .non) (.tup (.cons (.str "not") (.cons (.var 4) .nil))) .non) (.cons (.var 5) .nil))))
   .nil))
   .nil)
  (.cons (.ife (.cmp .Eq (.idx (.var 0) (.int 0)) (.str "("))
   (.cons (.asg (.tup [4, 5]) (.call "_law_read" 2 (.cons (.slc false (.var 0) (.some (.int 1)) .none) (.cons (.bin .sub (.var 1) (.int 1)) .nil))))
   (.cons (.ife (.bor (.cons (.cmp .Is (.var 4) .non) (.cons (.cmp .NotIn (.slc false (.var 5) .none (.some (.int 1))) (.tup (.cons (.str "&") (.cons (.str "|") .nil)))) .nil)))
    (.cons (.ret (.tup (.cons .non (.cons (.str "") .nil))))
    .nil)
    .nil)
   (.cons (.asg (.tup [6, 7]) (.call "_law_read" 2 (.cons (.slc false (.var 5) (.some (.int 1)) .none) (.cons (.bin .sub (.var 1) (.int 1)) .nil))))
   (.cons (.ife (.bor (.cons (.cmp .Is (.var 6) .non) (.cons (.cmp .NotEq (.slc false (.var 7) .none (.some (.int 1))) (.str ")")) .nil)))
    (.cons (.ret (.tup (.cons .non (.cons (.str "") .nil))))
    .nil)
    .nil)
   (.cons (.ret (.tup (.cons (.tup (.cons (.ite (.cmp .Eq (.idx (.var 5) (.int 0)) (.str "&")) (.str "and") (.str "or")) (.cons (.var 4) (.cons (.var 6) .nil)))) (.cons (.slc false (.var 7) (.some (.int 1)) .none) .nil))))
   .nil)))))
   .nil)
  (.cons (.asg (.one 2) (.ite (.cmp .Eq (.idx (.var 0) (.int 0)) (.str "~")) (.str "name") (.str "mark")))
  (.cons (.asg (.one 0) (.ite (.cmp .Eq (.var 2) (.str "name")) (.slc false (.var 0) (.some (.int 1)) .none) (.var 0)))
  (.cons (.asg (.one 3) (.int 0))
  (.cons (.whl 10000 (.chain .LtE .LtE (.str "a") (.slc false (.var 0) (.some (.var 3)) (.some (.bin (.add false) (.var 3) (.int 1)))) (.str "z"))
   (.cons (.asg (.one 3) (.bin (.add false) (.var 3) (.int 1)))
   .nil))
  (.cons (.ret (.tup (.cons (.ite (.chain .Lt .Lt (.int 0) (.var 3) (.int 6)) (.tup (.cons (.var 2) (.cons (.slc false (.var 0) .none (.some (.var 3))) .nil))) .non) (.cons (.slc false (.var 0) (.some (.var 3)) .none) .nil))))
  .nil))))))))⟩


section
variable {T : Tab} {gc : Str → Option D} {n : Nat} {st : Sto} {P : D → Sto → Prop} {E : Str → Sto → Prop}
theorem say_at (hS : T.get "_law_say" = some k_say) : ∀ (w : Wish) (n : Nat) (st : Sto) (P : D → Sto → Prop) (E : Str → Sto → Prop), w.wok → w.deep ≤ 20 → w.deep < n → wp (cfN T gc n "_law_say" [w.d]) st P E = P (.str (toS w.txt)) st
  | .mark x, n, st, P, E, h, hd, hn => by
    obtain ⟨n, rfl⟩ : ∃ k, n = k + 1 := ⟨n - 1, by omega⟩
    rw [w_fn hS]
    have hl := h.1
    have e : ¬ Str.ofString "mark" = Str.ofString "name" := by decide +kernel
    have e2 : Str.empty = toS [] := by decide +kernel
    simp [k_say, Wish.d, Wish.txt, e, e2]
    rw [show D.str x = D.str (toS (cs x)) by rw [toS_cs], add_toS _ _ (by simp; omega), fnQ_rt rfl (fun i e => by cases e)]
    simp
  | .name x, n, st, P, E, h, hd, hn => by
    obtain ⟨n, rfl⟩ : ∃ k, n = k + 1 := ⟨n - 1, by omega⟩
    rw [w_fn hS]
    have hl := h.1
    simp [k_say, Wish.d, Wish.txt, e_nm, s_til]
    rw [show D.str x = D.str (toS (cs x)) by rw [toS_cs], add_toS _ _ (by simp; omega), fnQ_rt rfl (fun i e => by cases e)]
    rfl
  | .not w, n, st, P, E, h, hd, hn => by
    obtain ⟨n, rfl⟩ : ∃ k, n = k + 1 := ⟨n - 1, by omega⟩
    rw [w_fn hS]
    simp only [Wish.deep] at hd hn
    have hl := wtl (w := w) h (by omega)
    simp [k_say, Wish.d, Wish.txt, e_tm, e_tn, s_bang, say_at hS w n st _ _ h (by omega) (by omega)]
    rw [add_toS _ _ (by simp; omega), fnQ_rt rfl (fun i e => by cases e)]
    rfl
  | .and a b, n, st, P, E, h, hd, hn => by
    obtain ⟨n, rfl⟩ : ∃ k, n = k + 1 := ⟨n - 1, by omega⟩
    rw [w_fn hS]
    simp only [Wish.deep] at hd hn
    have hl1 := wtl (w := a) h.1 (by omega)
    have hl2 := wtl (w := b) h.2 (by omega)
    simp [k_say, Wish.d, Wish.txt, e_am, e_an, e_at, s_par, s_and1, s_or1, s_clo]
    rw [say_at hS a n _ _ _ h.1 (by omega) (by omega), add_toS _ _ (by simp; omega), add_toS _ _ (by simp; omega), say_at hS b n _ _ _ h.2 (by omega) (by omega), add_toS _ _ (by simp; omega), add_toS _ _ (by simp; omega)]
    rw [fnQ_rt rfl (fun i e => by cases e)]
    simp
  | .or a b, n, st, P, E, h, hd, hn => by
    obtain ⟨n, rfl⟩ : ∃ k, n = k + 1 := ⟨n - 1, by omega⟩
    rw [w_fn hS]
    simp only [Wish.deep] at hd hn
    have hl1 := wtl (w := a) h.1 (by omega)
    have hl2 := wtl (w := b) h.2 (by omega)
    simp [k_say, Wish.d, Wish.txt, e_om, e_on, e_ot, e_oa, s_par, s_and1, s_or1, s_clo]
    rw [say_at hS a n _ _ _ h.1 (by omega) (by omega), add_toS _ _ (by simp; omega), add_toS _ _ (by simp; omega), say_at hS b n _ _ _ h.2 (by omega) (by omega), add_toS _ _ (by simp; omega), add_toS _ _ (by simp; omega)]
    rw [fnQ_rt rfl (fun i e => by cases e)]
    simp

theorem cut_tl (c : Nat) (r : List Nat) : cutS (toS (c :: r)) (some 1) none = toS r := by
  unfold cutS
  have e1 : HT.sIx (toS (c :: r)).length 0 (some 1) = 1 := by
    rw [show (some 1 : Option Int) = some ((1 : Nat) : Int) from rfl, HT.sIx_nat, toS_len]; simp
  rw [e1, HT.sIx_none, toS_len]
  simp [toS]
theorem cut_hd (l : List Nat) : cutS (toS l) none (some 1) = toS (l.take 1) := by
  unfold cutS
  rw [show (some 1 : Option Int) = some ((1 : Nat) : Int) from rfl, HT.sIx_nat, HT.sIx_none, toS_len]
  cases l <;> simp [toS]
theorem cut_from (l : List Nat) (k : Nat) : cutS (toS l) (some (k : Int)) none = toS (l.drop k) := by
  unfold cutS
  rw [HT.sIx_nat, HT.sIx_none, toS_len]
  unfold toS
  congr 1
  congr 1
  simp only [List.toList_toArray]
  rcases Nat.le_total k l.length with h | h
  · rw [Nat.min_eq_left h, List.take_of_length_le (by simp)]
  · rw [Nat.min_eq_right h]; simp [List.drop_eq_nil_of_le h]
theorem cut_to (l : List Nat) (k : Nat) : cutS (toS l) none (some (k : Int)) = toS (l.take k) := by
  unfold cutS
  rw [HT.sIx_nat, HT.sIx_none, toS_len]
  unfold toS
  congr 1
  congr 1
  simp only [List.toList_toArray, List.drop_zero, Nat.sub_zero]
  rcases Nat.le_total k l.length with h | h
  · rw [Nat.min_eq_left h]
  · rw [Nat.min_eq_right h, List.take_of_length_le (Nat.le_refl _), List.take_of_length_le h]
theorem cut_at (l : List Nat) (k : Nat) : cutS (toS l) (some (k : Int)) (some ((k : Int) + 1)) = toS ((l.drop k).take 1) := by
  unfold cutS
  rw [show (some ((k : Int) + 1) : Option Int) = some ((k + 1 : Nat) : Int) from rfl, HT.sIx_nat, HT.sIx_nat, toS_len]
  unfold toS
  congr 1
  congr 1
  simp only [List.toList_toArray]
  rcases Nat.lt_or_ge k l.length with h | h
  · rw [Nat.min_eq_left (by omega), Nat.min_eq_left (by omega), show k + 1 - k = 1 by omega]
  · rw [Nat.min_eq_right (by omega), Nat.min_eq_right (by omega)]; simp [List.drop_eq_nil_of_le h]
theorem ix0 (c : Nat) (r : List Nat) : idxT st (.str (toS (c :: r))) (.int 0) = some (.str (toS [c])) := by
  simp [idxT, toS, atI, ixN]
theorem e_nil (c : Nat) (r : List Nat) : ¬ toS (c :: r) = Str.ofString "" := fun h => by
  have := congrArg cs h
  rw [cs_toS, show cs (Str.ofString "") = [] by decide +kernel] at this
  cases this
theorem s_nil : toS [] = Str.ofString "" := by decide +kernel
theorem lloop {cf : Str → List D → M D} {Q : Out → Sto → Prop} (l : List Nat) : ∀ (q : List Nat) (f k : Nat) (ρ : Lo), ρ[0]? = some (some (.str (toS l))) → ρ[3]? = some (some (.int (k : Int))) → l.drop k = q → (wdL q).length < f → Q (.nx (ρ.set 3 (some (.int ((k + (wdL q).length : Nat) : Int))))) st →
    wpS (loopW (tst cf gc (.chain .LtE .LtE (.str "a") (.slc false (.var 0) (.some (.var 3)) (.some (.bin (.add false) (.var 3) (.int 1)))) (.str "z"))) (exSs cf gc (.cons (.asg (.one 3) (.bin (.add false) (.var 3) (.int 1))) .nil)) f) ρ st Q
  | q, 0, _, _, _, _, _, hf, _ => by omega
  | [], f + 1, k, ρ, h0, h3, hq, hf, hQ => by
    rw [loopW_stop]
    simp [h0, h3, q_slc_str, cut_at, hq, ale_0]
    simp [wdL] at hQ
    have e : ρ.set 3 (some (.int (k : Int))) = ρ := by
      apply List.ext_getElem?
      intro j
      by_cases e : 3 = j
      · subst e; rw [List.getElem?_set_self (List.getElem?_eq_some_iff.mp h3).1, h3]
      · rw [List.getElem?_set_ne e]
    rw [e] at hQ
    exact hQ
  | c :: r, f + 1, k, ρ, h0, h3, hq, hf, hQ => by
    rw [loopW_stop]
    have e : ρ.set 3 (some (.int (k : Int))) = ρ := by
      apply List.ext_getElem?
      intro j
      by_cases e : 3 = j
      · subst e; rw [List.getElem?_set_self (List.getElem?_eq_some_iff.mp h3).1, h3]
      · rw [List.getElem?_set_ne e]
    simp [h0, h3, q_slc_str, cut_at, hq, ale_a, ale_z]
    have l3 : 3 < ρ.length := (List.getElem?_eq_some_iff.mp h3).1
    by_cases h1 : 97 ≤ c
    · by_cases h2 : c ≤ 122
      · have hl : lowc c = true := by simp [lowc, h1, h2]
        simp [h1, h2]
        have hd : l.drop (k + 1) = r := by rw [← List.drop_drop, hq]; rfl
        refine lloop l r f (k + 1) _ (by rw [List.getElem?_set_ne (by omega)]; exact h0) (by rw [List.getElem?_set_self l3]; rfl) hd ?_ ?_
        · simp [wdL, hl] at hf
          simpa [wdL] using hf
        · have e2 : k + (wdL (c :: r)).length = k + 1 + (wdL r).length := by simp [wdL, hl]; omega
          rw [e2] at hQ
          simpa using hQ
      · have hl : lowc c = false := by simp [lowc, h1, h2]
        simp [h1, h2]
        simp [wdL, hl, e] at hQ
        exact hQ
    · have hl : lowc c = false := by simp [lowc, h1]
      simp [h1]
      simp [wdL, hl, e] at hQ
      exact hQ

/-- what is read by hand: the wish and what is left, or None and anything -/
def lrP (left : Nat) (l : List Nat) (d : D) : Prop := match rWish left l with
  | some (w, q) => d = .tup [w.d, .str (toS q)]
  | none => ∃ q : List Nat, q.length ≤ l.length ∧ d = .tup [.non, .str (toS q)]
theorem isNon_w (w : Wish) : w.d.isNon = false := by cases w <;> rfl
theorem fnT (l : List D) : fnQ st P E (.rt (.tup l)) st = P (.tup l) st := fnQ_rt rfl (fun i e => by cases e)
theorem e_not_par : ¬ ([33] : List Nat) = [40] := by decide
theorem lread_at (hR : T.get "_law_read" = some k_read) : ∀ (left n : Nat) (l : List Nat) (st : Sto), left < n → l.length < 10000 →
    wp (cfN T gc n "_law_read" [.str (toS l), .int left]) st (fun d s1 => s1 = st ∧ lrP left l d) noX
  | 0, n, l, st, hn, hl => by
    obtain ⟨n, rfl⟩ : ∃ k, n = k + 1 := ⟨n - 1, by omega⟩
    rw [w_fn hR]
    simp [k_read]
    rw [fnT]
    refine ⟨rfl, ?_⟩
    have : rWish 0 l = none := by cases l <;> rfl
    simp only [lrP, this]
    exact ⟨[], Nat.zero_le _, by rw [s_nil]⟩
  | left + 1, n, [], st, hn, hl => by
    obtain ⟨n, rfl⟩ : ∃ k, n = k + 1 := ⟨n - 1, by omega⟩
    rw [w_fn hR]
    have e1 : ¬ ((left : Int) + 1 = 0) := by omega
    simp [k_read, e1, s_nil]
    rw [fnT]
    refine ⟨rfl, ?_⟩
    exact ⟨[], Nat.zero_le _, by rw [s_nil]⟩
  | left + 1, n, c :: r, st, hn, hl => by
    obtain ⟨n, rfl⟩ : ∃ k, n = k + 1 := ⟨n - 1, by omega⟩
    rw [w_fn hR]
    simp only [List.length_cons] at hl
    have e1 : ¬ ((left : Int) + 1 = 0) := by omega
    have e2 : (left : Int) + 1 - 1 = left := by omega
    by_cases c1 : c = 33
    · subst c1
      simp [k_read, e1, e2, e_nil, ix0, s_bang, eS, q_slc_str, cut_tl]
      refine wp_go (lread_at hR left n r _ (by omega) (by omega)) ?_
      rintro d s1 ⟨rfl, hd⟩
      unfold lrP at hd
      match hw : rWish left r with
      | some (w, q) =>
        rw [hw] at hd
        subst hd
        simp [bindT, setD, isNon_w]
        rw [fnT]
        exact ⟨rfl, by simp [lrP, rWish, hw, Wish.d]⟩
      | none =>
        rw [hw] at hd
        obtain ⟨q, hq, rfl⟩ := hd
        simp [bindT, setD, isnon_non]
        rw [fnT]
        refine ⟨rfl, ?_⟩
        simp only [lrP, rWish, hw, if_pos, Option.map_none]
        exact ⟨q, by simp; omega, rfl⟩
    · by_cases c3 : c = 40
      · subst c3
        simp [k_read, e1, e2, e_nil, ix0, s_bang, s_par, eS, q_slc_str, cut_tl]
        refine wp_go (lread_at hR left n r _ (by omega) (by omega)) ?_
        rintro d s1 ⟨rfl, hd⟩
        unfold lrP at hd
        match hw : rWish left r with
        | none =>
          rw [hw] at hd
          obtain ⟨q, hq, rfl⟩ := hd
          simp [bindT, setD, isnon_non]
          rw [fnT]
          refine ⟨rfl, ?_⟩
          simp only [lrP, rWish, hw, if_pos, if_neg, Option.map_none]
          exact ⟨[], Nat.zero_le _, by rw [s_nil]⟩
        | some (a, q1) =>
          rw [hw] at hd
          subst hd
          have hl1 := (rWish_suf hw).1.length_le
          simp [bindT, setD, isNon_w, q_slc_str, cut_hd, s_and1, s_or1, eS]
          cases q1 with
          | nil =>
            simp
            rw [fnT]
            refine ⟨rfl, ?_⟩
            simp only [lrP, rWish, hw]
            exact ⟨[], Nat.zero_le _, by rw [s_nil]⟩
          | cons sg q2 =>
            simp at hl1
            by_cases c4 : sg = 38 ∨ sg = 124
            · simp [c4, cut_tl, ix0, eS]
              refine wp_go (lread_at hR left n q2 _ (by omega) (by omega)) ?_
              rintro d s1 ⟨rfl, hd⟩
              unfold lrP at hd
              match hw2 : rWish left q2 with
              | none =>
                rw [hw2] at hd
                obtain ⟨q, hq, rfl⟩ := hd
                simp [bindT, setD, isnon_non]
                rw [fnT]
                refine ⟨rfl, ?_⟩
                have : rWish (left + 1) (40 :: r) = none := by
                  unfold rWish
                  rw [if_neg (by omega), if_neg (by omega), if_pos rfl, hw]
                  dsimp only
                  rw [if_pos c4, hw2]
                unfold lrP
                rw [this]
                exact ⟨[], Nat.zero_le _, by rw [s_nil]⟩
              | some (b, q3) =>
                rw [hw2] at hd
                subst hd
                have e8 : ∀ t z, rWish left q2 = some (b, t :: z) → rWish (left + 1) (40 :: r) = if t = 41 then some (both2 sg a b, z) else none := fun t z hh => by
                  conv => lhs; unfold rWish
                  rw [if_neg (by omega), if_neg (by omega), if_pos rfl, hw]
                  dsimp only
                  rw [if_pos c4, hh]
                simp [bindT, setD, isNon_w, q_slc_str, cut_hd, s_clo, eS]
                cases q3 with
                | nil =>
                  simp
                  rw [fnT]
                  refine ⟨rfl, ?_⟩
                  have : rWish (left + 1) (40 :: r) = none := by
                    unfold rWish
                    rw [if_neg (by omega), if_neg (by omega), if_pos rfl, hw]
                    dsimp only
                    rw [if_pos c4, hw2]
                  unfold lrP
                  rw [this]
                  exact ⟨[], Nat.zero_le _, by rw [s_nil]⟩
                | cons t z =>
                  by_cases c5 : t = 41
                  · subst c5
                    simp [cut_tl]
                    rcases c4 with rfl | rfl
                    · simp only [ix0, lk_some, eqT_str, eS]
                      simp
                      try rw [fnT]
                      refine ⟨rfl, ?_⟩
                      unfold lrP
                      rw [e8 _ _ hw2, if_pos rfl]
                      rfl
                    · simp only [ix0, lk_some, eqT_str, eS]
                      simp
                      try rw [fnT]
                      refine ⟨rfl, ?_⟩
                      unfold lrP
                      rw [e8 _ _ hw2, if_pos rfl]
                      rfl
                  · simp [c5]
                    rw [fnT]
                    refine ⟨rfl, ?_⟩
                    unfold lrP
                    rw [e8 _ _ hw2, if_neg c5]
                    exact ⟨[], Nat.zero_le _, by rw [s_nil]⟩
            · simp [c4]
              rw [fnT]
              refine ⟨rfl, ?_⟩
              have : rWish (left + 1) (40 :: r) = none := by
                unfold rWish
                rw [if_neg (by omega), if_neg (by omega), if_pos rfl, hw]
                dsimp only
                rw [if_neg c4]
              unfold lrP
              rw [this]
              exact ⟨[], Nat.zero_le _, by rw [s_nil]⟩
      · have e9 : rWish (left + 1) (c :: r) = if c = 126 then (rWord r).map fun p => (.name p.1, p.2) else (rWord (c :: r)).map fun p => (.mark p.1, p.2) := by
          conv => lhs; unfold rWish
          rw [if_neg c1]
          split
          · rfl
          · rfl
        have tail : ∀ (kd : Str) (mk : Str → Wish) (l2 : List Nat), (∀ x, (mk x).d = .tup [.str kd, .str x]) → l2.length < 10000 → l2.length ≤ (c :: r).length → (rWish (left + 1) (c :: r) = (rWord l2).map fun p => (mk p.1, p.2)) → ∀ ρ : Lo, ρ[0]? = some (some (.str (toS l2))) → ρ[3]? = some (some (.int ((0 : Nat) : Int))) → ρ[2]? = some (some (.str kd)) →
            wpS (loopW (tst (cfN T gc n) gc (.chain .LtE .LtE (.str "a") (.slc false (.var 0) (.some (.var 3)) (.some (.bin (.add false) (.var 3) (.int 1)))) (.str "z"))) (exSs (cfN T gc n) gc (.cons (.asg (.one 3) (.bin (.add false) (.var 3) (.int 1))) .nil)) 10000) ρ st
              (seqQ (cfN T gc n) gc (.cons (.ret (.tup (.cons (.ite (.chain .Lt .Lt (.int 0) (.var 3) (.int 6)) (.tup (.cons (.var 2) (.cons (.slc false (.var 0) .none (.some (.var 3))) .nil))) .non) (.cons (.slc false (.var 0) (.some (.var 3)) .none) .nil)))) .nil) (fnQ st (fun d s1 => s1 = st ∧ lrP (left + 1) (c :: r) d) noX)) := by
          intro kd mk l2 hmk hl2 hle hrw ρ h0 h3 h2
          refine lloop l2 l2 10000 0 ρ h0 h3 rfl (by have := wdL_le l2; omega) ?_
          have l3 : 3 < ρ.length := (List.getElem?_eq_some_iff.mp h3).1
          have g0 : (ρ.set 3 (some (.int ((0 + (wdL l2).length : Nat) : Int))))[0]? = some (some (.str (toS l2))) := by rw [List.getElem?_set_ne (by omega)]; exact h0
          have g2 : (ρ.set 3 (some (.int ((0 + (wdL l2).length : Nat) : Int))))[2]? = some (some (.str kd)) := by rw [List.getElem?_set_ne (by omega)]; exact h2
          have g3 : (ρ.set 3 (some (.int ((0 + (wdL l2).length : Nat) : Int))))[3]? = some (some (.int ((wdL l2).length : Int))) := by rw [List.getElem?_set_self l3]; simp
          generalize ρ.set 3 (some (.int ((0 + (wdL l2).length : Nat) : Int))) = ρ1 at g0 g2 g3
          simp [g0, g2, g3, q_slc_str, cut_from, cut_to]
          have f1 : l2.take (wdL l2).length = wdL l2 := by
            calc l2.take (wdL l2).length = (wdL l2 ++ wdR l2).take (wdL l2).length := by rw [wd_app]
              _ = wdL l2 := List.take_left
          have f2 : l2.drop (wdL l2).length = wdR l2 := by
            calc l2.drop (wdL l2).length = (wdL l2 ++ wdR l2).drop (wdL l2).length := by rw [wd_app]
              _ = wdR l2 := List.drop_left
          rw [f1, f2]
          by_cases q1 : 1 ≤ (wdL l2).length
          · by_cases q2 : (wdL l2).length ≤ 5
            · rw [if_pos (by omega), if_pos (by omega)]
              rw [fnT]
              refine ⟨rfl, ?_⟩
              unfold lrP
              rw [hrw]
              simp [rWord, q1, q2, hmk]
            · rw [if_pos (by omega), if_neg (by omega)]
              rw [fnT]
              refine ⟨rfl, ?_⟩
              unfold lrP
              rw [hrw]
              simp [rWord, q1, q2]
              exact ⟨wdR l2, by have := (wdR_suf l2).length_le; simp at hle; omega, rfl⟩
          · rw [if_neg (by omega)]
            rw [fnT]
            refine ⟨rfl, ?_⟩
            unfold lrP
            rw [hrw]
            have q1' : ¬ (1 ≤ (wdL l2).length ∧ (wdL l2).length ≤ 5) := by omega
            unfold rWord
            rw [if_neg q1']
            exact ⟨wdR l2, by have := (wdR_suf l2).length_le; omega, rfl⟩
        by_cases c2 : c = 126
        · subst c2
          simp [k_read, e1, e2, e_nil, ix0, s_bang, s_par, s_til, eS, q_slc_str, cut_tl]
          exact tail "name" .name r (fun x => rfl) (by omega) (by simp) (by rw [e9, if_pos rfl]) _ rfl rfl rfl
        · simp [k_read, e1, e2, e_nil, ix0, s_bang, s_par, s_til, eS, q_slc_str, cut_tl, c1, c2, c3]
          exact tail "mark" .mark (c :: r) (fun x => rfl) (by simp; omega) (by simp) (by rw [e9, if_neg c2]) _ rfl rfl rfl
end
end TB
set_option Elab.async false
set_option linter.all false
set_option maxRecDepth 100000
set_option maxHeartbeats 4000000
namespace TBP
open PySem PySem.Spec L2 TB
section
variable {T : Tab} {gc : Str → Option D} {n : Nat} {st : Sto} {P : D → Sto → Prop} {E : Str → Sto → Prop}
theorem wishX_at (hT : T.get "_law_draw" = some k_draw) (hP : T.get "_law_pick" = some k_pick) (hW : T.get "_law_wish" = some k_wish) {ns : List Int} {i : Nat} : ∀ (left n k : Nat) (st : Sto), left + 3 < n → k + wc left < 1000000 → st[i]? = some (.lst (zeros k)) →
    wp (cfN T gc n "_law_wish" [.scr ns, .ref i, .int left]) st (fun d st1 => ∃ (w : Wish) (k' : Nat), d = w.d ∧ w.deep ≤ max 1 left ∧ w.ok ∧ k' ≤ k + wc left ∧ st1 = st.set i (.lst (zeros k'))) noX := by
  intro left
  induction left with
  | zero =>
    intro n k st hn hk hi
    obtain ⟨n, rfl⟩ : ∃ k, n = k + 1 := ⟨n - 1, by omega⟩
    have hw : wc 0 = 3 := rfl
    rw [w_fn hW]
    simp [k_wish]
    refine wp_go (draw_at hT (by omega) (by omega) hi (by omega)) ?_
    rintro _ _ ⟨j, h0, h1, rfl, rfl⟩
    refine wp_go (draw_at hT (by omega) (by omega) (tw_set hi _) (by omega)) ?_
    rintro _ _ ⟨j2, h0, h1, rfl, rfl⟩
    simp
    split
    · refine wp_go (pick_at hT hP (by omega) (by simp) (tw_set hi _) (by omega) (by simp)) ?_
      rintro d _ ⟨hd, rfl⟩
      rw [fnQ_rt (by simp) (fun i e => by cases e)]
      simp only [List.mem_cons, List.not_mem_nil, or_false] at hd
      rcases hd with rfl | rfl | rfl | rfl <;> exact ⟨.mark _, rfl, by simp [Wish.deep], by simp [Wish.ok, wmL], k + 1 + 1 + 1, by omega, by simp⟩
    · refine wp_go (pick_at hT hP (by omega) (by simp) (tw_set hi _) (by omega) (by simp)) ?_
      rintro d _ ⟨hd, rfl⟩
      rw [fnQ_rt (by simp) (fun i e => by cases e)]
      simp only [List.mem_cons, List.not_mem_nil, or_false] at hd
      rcases hd with rfl | rfl | rfl | rfl | rfl | rfl <;> exact ⟨.name _, rfl, by simp [Wish.deep], by simp [Wish.ok, wnL], k + 1 + 1 + 1, by omega, by simp⟩
  | succ left ih =>
    intro n k st hn hk hi
    obtain ⟨n, rfl⟩ : ∃ k, n = k + 1 := ⟨n - 1, by omega⟩
    have hw : wc (left + 1) = 3 + 2 * wc left := rfl
    have := wc_ge left
    rw [w_fn hW]
    simp [k_wish]
    refine wp_go (draw_at hT (by omega) (by omega) hi (by omega)) ?_
    rintro _ _ ⟨j, h0, h1, rfl, rfl⟩
    simp
    split
    · refine wp_go (draw_at hT (by omega) (by omega) (tw_set hi _) (by omega)) ?_
      rintro _ _ ⟨j2, h0, h1, rfl, rfl⟩
      simp
      split
      · refine wp_go (pick_at hT hP (by omega) (by simp) (tw_set hi _) (by omega) (by simp)) ?_
        rintro d _ ⟨hd, rfl⟩
        rw [fnQ_rt (by simp) (fun i e => by cases e)]
        simp only [List.mem_cons, List.not_mem_nil, or_false] at hd
        rcases hd with rfl | rfl | rfl | rfl <;> exact ⟨.mark _, rfl, by simp [Wish.deep], by simp [Wish.ok, wmL], k + 1 + 1 + 1, by omega, by simp⟩
      · refine wp_go (pick_at hT hP (by omega) (by simp) (tw_set hi _) (by omega) (by simp)) ?_
        rintro d _ ⟨hd, rfl⟩
        rw [fnQ_rt (by simp) (fun i e => by cases e)]
        simp only [List.mem_cons, List.not_mem_nil, or_false] at hd
        rcases hd with rfl | rfl | rfl | rfl | rfl | rfl <;> exact ⟨.name _, rfl, by simp [Wish.deep], by simp [Wish.ok, wnL], k + 1 + 1 + 1, by omega, by simp⟩
    · split
      · refine wp_go (draw_at hT (by omega) (by omega) (tw_set hi _) (by omega)) ?_
        rintro _ _ ⟨j2, h0, h1, rfl, rfl⟩
        simp
        split
        · refine wp_go (pick_at hT hP (by omega) (by simp) (tw_set hi _) (by omega) (by simp)) ?_
          rintro d _ ⟨hd, rfl⟩
          rw [fnQ_rt (by simp) (fun i e => by cases e)]
          simp only [List.mem_cons, List.not_mem_nil, or_false] at hd
          rcases hd with rfl | rfl | rfl | rfl <;> exact ⟨.mark _, rfl, by simp [Wish.deep], by simp [Wish.ok, wmL], k + 1 + 1 + 1, by omega, by simp⟩
        · refine wp_go (pick_at hT hP (by omega) (by simp) (tw_set hi _) (by omega) (by simp)) ?_
          rintro d _ ⟨hd, rfl⟩
          rw [fnQ_rt (by simp) (fun i e => by cases e)]
          simp only [List.mem_cons, List.not_mem_nil, or_false] at hd
          rcases hd with rfl | rfl | rfl | rfl | rfl | rfl <;> exact ⟨.name _, rfl, by simp [Wish.deep], by simp [Wish.ok, wnL], k + 1 + 1 + 1, by omega, by simp⟩
      · split
        · refine wp_go (ih n _ _ (by omega) (by omega) (tw_set hi _)) ?_
          rintro _ _ ⟨w, k1, rfl, hd, hok, hk1, rfl⟩
          rw [fnQ_rt (by simp) (fun i e => by cases e)]
          exact ⟨.not w, rfl, by simp only [Wish.deep]; omega, hok, k1, by omega, by simp⟩
        · refine wp_go (ih n _ _ (by omega) (by omega) (tw_set hi _)) ?_
          rintro _ _ ⟨w, k1, rfl, hd, hok, hk1, rfl⟩
          simp
          refine wp_go (pick_at hT hP (by omega) (by simp) (tw_set hi _) (by omega) (by simp)) ?_
          rintro d1 _ ⟨hd1, rfl⟩
          simp
          refine wp_go (ih n _ _ (by omega) (by omega) (tw_set hi _)) ?_
          rintro _ _ ⟨w2, k2, rfl, hd2, hok2, hk2, rfl⟩
          rw [fnQ_rt (by simp) (fun i e => by cases e)]
          simp only [List.mem_cons, List.not_mem_nil, or_false] at hd1
          rcases hd1 with rfl | rfl
          · exact ⟨.and w w2, rfl, by simp only [Wish.deep]; omega, ⟨hok, hok2⟩, k2, by omega, by simp⟩
          · exact ⟨.or w w2, rfl, by simp only [Wish.deep]; omega, ⟨hok, hok2⟩, k2, by omega, by simp⟩

end

theorem rdT : RdT T gc := ⟨rfl, rfl, rfl, rfl, rfl, rfl, rfl, rfl, rfl, rfl, rfl⟩
theorem g_draw : T.get "_law_draw" = some k_draw := by rfl
theorem g_pick : T.get "_law_pick" = some k_pick := by rfl
theorem g_wish : T.get "_law_wish" = some k_wish := by rfl
theorem g_same : T.get "_law_same" = some k_same := by rfl
theorem g_say : T.get "_law_say" = some k_say := by rfl
theorem g_lread : T.get "_law_read" = some k_read := by rfl
theorem g_told : T.get "_law_told" = some b_law_told := by rfl
theorem g_or : T.get "_law_or" = some b_law_or := by rfl
theorem g_law : T.get "law" = some b_law := by rfl
def toldD (z : Str) : D := match readRes z with
  | .ok d => d
  | .exn _ => .str "refused"
section
variable {n : Nat} {st : Sto} {P : D → Sto → Prop} {E : Str → Sto → Prop}
theorem told_at (hn : 10 < n) (hw : Wf st) {z : Str} (hz : z.length < 10000) : wp (cfN T gc n "_law_told" [.str z]) st P E = P (toldD z) st := by
  obtain ⟨n, rfl⟩ : ∃ k, n = k + 1 := ⟨n - 1, by omega⟩
  rw [w_fn g_told]
  simp [b_law_told, read_at rdT (show 9 < n by omega) hw hz]
  unfold toldD readRes
  match hr : rWish 6 (cs z) with
  | some (w, []) =>
    simp [resP]
    rw [fnQ_rt rfl (fun i e => absurd e (Wish.noref _ i))]
  | some (w, c :: r) =>
    simp [resP, lkH, Hd.out]
    rw [fnQ_rt rfl (fun i e => by cases e)]
  | none =>
    simp [resP, lkH, Hd.out]
    rw [fnQ_rt rfl (fun i e => by cases e)]
theorem or_non (hn : 0 < n) : wp (cfN T gc n "_law_or" [.non]) st P E = P (.str "refused") st := by
  obtain ⟨n, rfl⟩ : ∃ k, n = k + 1 := ⟨n - 1, by omega⟩
  rw [w_fn g_or]
  simp [b_law_or, isnon_non]
  rw [fnQ_rt rfl (fun i e => by cases e)]
theorem or_w (hn : 0 < n) (w : Wish) : wp (cfN T gc n "_law_or" [w.d]) st P E = P w.d st := by
  obtain ⟨n, rfl⟩ : ∃ k, n = k + 1 := ⟨n - 1, by omega⟩
  rw [w_fn g_or]
  simp [b_law_or, isNon_w]
  rw [fnQ_rt rfl (fun i e => absurd e (Wish.noref _ i))]
theorem readRes_txt {w : Wish} (h : w.wok) (hd : w.deep ≤ 6) : readRes (toS w.txt) = .ok w.d := by
  unfold readRes
  have := rWish_txt w 6 [] h hd noLow_nil
  rw [List.append_nil] at this
  rw [cs_toS, this]
/-- a text added: what counts is how long it is -/
theorem add_any {m : Bool} {x y : Str} (h : x.length + y.length ≤ 16777216) (hp : ∀ z : Str, z.length = x.length + y.length → P (.str z) st) : wp (opAdd m (.str x) (.str y)) st P E := by
  rw [q_add_str h]
  refine hp _ ?_
  show (x.cps ++ y.cps).size = x.cps.size + y.cps.size
  simp
end
end TBP
set_option Elab.async false
set_option linter.all false
set_option maxRecDepth 100000
set_option maxHeartbeats 4000000
namespace TBP
open PySem PySem.Spec L2 TB
section
variable {n : Nat} {st : Sto}
def shortD (d : D) : Prop := ∃ z : Str, d = .str z ∧ z.length < 5000
theorem tf_str (k : Nat) (x : Str) : (D.str x).tfine (k + 1) = true := by rfl
theorem thing_loop (hn : 12 < n) (hw : Wf st) {Q : Out → Sto → Prop} {ds : List D} {x0 x1 x2 x3 x4 x5 x6 x7 x8 x9 x10 x11 : Option D} (h : ∀ d ∈ ds, shortD d) (hq : ∀ x7 x10 x11, Q (.nx [x0, x1, x2, x3, x4, x5, x6, x7, x8, x9, x10, x11]) st) :
    wpS (loopF ⟨ds, none⟩ (.one 7) (exSs (cfN T gc n) gc (.cons (.asg (.tup [10, 11]) (.call "_law_read" 2 (.cons (.var 7) (.cons (.int 6) .nil))))
    (.cons (.ife (.not (.call "_law_same" 2 (.cons (.call "_law_told" 1 (.cons (.var 7) .nil)) (.cons (.call "_law_or" 1 (.cons (.ite (.cmp .Eq (.var 11) (.str "")) (.var 10) .non) .nil)) .nil))))
     (.cons (.ret (.bl false))
     .nil)
     .nil)
    .nil))) ds) [x0, x1, x2, x3, x4, x5, x6, x7, x8, x9, x10, x11] st Q := by
  refine loop_inv (src := ⟨ds, none⟩) (fun l ρ s => (∀ d ∈ l, shortD d) ∧ s = st ∧ ∃ x7 x10 x11, ρ = [x0, x1, x2, x3, x4, x5, x6, x7, x8, x9, x10, x11]) (fun _ _ _ _ => by trivial) ?_ ?_ ds _ _ ⟨h, rfl, x7, x10, x11, rfl⟩
  · rintro d l ρ s ⟨hs, rfl, x7, x10, x11, rfl⟩
    obtain ⟨z, rfl, hz⟩ := hs d List.mem_cons_self
    refine ⟨_, rfl, ?_⟩
    simp
    have hlr := lread_at (gc := gc) g_lread 6 n (cs z) s (by omega) (by simp [cs, Str.length] at hz ⊢; omega)
    rw [toS_cs, show ((6 : Nat) : Int) = 6 from rfl] at hlr
    refine wp_go hlr ?_
    rintro d1 s1 ⟨rfl, hd⟩
    have ht : ∀ P E, wp (cfN T gc n "_law_told" [.str z]) s1 P E = P (toldD z) s1 := fun P E => told_at (by omega) hw (by omega)
    have hr : ∀ y ∈ l, shortD y := fun y hy => hs y (List.mem_cons_of_mem _ hy)
    have sm : ∀ w : Wish, w.deep ≤ 6 → ∀ P E, wp (cfN T gc n "_law_same" [w.d, w.d]) s1 P E = P (.bl true) s1 := fun w hw' P E => same_at g_same 6 n _ _ P E (Wish.tf w 6 hw') (by omega) (by omega)
    have sr : ∀ P E, wp (cfN T gc n "_law_same" [.str "refused", .str "refused"]) s1 P E = P (.bl true) s1 := fun P E => same_at g_same 1 n _ _ P E (tf_str 0 _) (by omega) (by omega)
    unfold lrP at hd
    match hw2 : rWish 6 (cs z) with
    | none =>
      rw [hw2] at hd
      obtain ⟨q, _, rfl⟩ := hd
      have e : toldD z = .str "refused" := by simp [toldD, readRes, hw2]
      simp [bindT, setD, ht, e]
      by_cases hq0 : toS q = Str.ofString ""
      · simp [hq0, or_non (show 0 < n by omega), sr]
        exact hr
      · simp [hq0, or_non (show 0 < n by omega), sr]
        exact hr
    | some (w, []) =>
      rw [hw2] at hd
      subst hd
      have e : toldD z = w.d := by simp [toldD, readRes, hw2]
      simp [bindT, setD, ht, e, s_nil, or_w (show 0 < n by omega), sm w (rWish_suf hw2).2]
      exact hr
    | some (w, c :: q) =>
      rw [hw2] at hd
      subst hd
      have e : toldD z = .str "refused" := by simp [toldD, readRes, hw2]
      simp [bindT, setD, ht, e, e_nil, or_non (show 0 < n by omega), sr]
      exact hr
  · rintro ρ s ⟨_, rfl, x7, x10, x11, rfl⟩
    exact hq _ _ _

theorem draw_loop (hn : 12 < n) {ns : List Int} {z : Str} (hz : z.length ≤ 1000) {Q : Out → Sto → Prop} {k : Nat} (hk : k < 900000) {l : List D} (hl : l.length ≤ 1000) (hs : ∀ d ∈ l, shortD d) {x2 x3 x6 x7 x8 x9 x10 x11 : Option D}
    (hq : ∀ k' l' x6 x8 x9, k' ≤ k + 16 → l'.length ≤ l.length + 24 → (∀ d ∈ l', shortD d) → Q (.nx [some (.scr ns), some (.ref 0), x2, x3, some (.str z), some (.lst l'), x6, x7, x8, x9, x10, x11]) [.lst (zeros k')]) :
    wpS (loopF ⟨rngL 0 8, none⟩ (.one 6) (exSs (cfN T gc n) gc (.cons (.asg (.one 8) (.call "_law_draw" 3 (.cons (.var 0) (.cons (.var 1) (.cons (.bin (.add false) (.blt .len (.var 4)) (.int 1)) .nil)))))
    (.cons (.asg (.one 9) (.call "_law_pick" 3 (.cons (.var 0) (.cons (.var 1) (.cons (.str "abxz~!()&| AZ1_") .nil)))))
    (.cons (.asg (.one 5) (.bin (.add false) (.var 5) (.lst false (.cons (.bin (.add false) (.bin (.add false) (.slc false (.var 4) .none (.some (.var 8))) (.var 9)) (.slc false (.var 4) (.some (.var 8)) .none)) (.cons (.bin (.add false) (.slc false (.var 4) .none (.some (.var 8))) (.slc false (.var 4) (.some (.bin (.add false) (.var 8) (.int 1))) .none)) (.cons (.bin (.add false) (.bin (.add false) (.slc false (.var 4) .none (.some (.var 8))) (.var 9)) (.slc false (.var 4) (.some (.bin (.add false) (.var 8) (.int 1))) .none)) .nil))))))
    .nil)))) (rngL 0 8)) [some (.scr ns), some (.ref 0), x2, x3, some (.str z), some (.lst l), x6, x7, x8, x9, x10, x11] [.lst (zeros k)] Q := by
  refine loop_rng (src := ⟨rngL 0 8, none⟩) rfl (fun m ρ s => ∃ k' l' x6 x8 x9, k' ≤ k + 2 * m ∧ l'.length ≤ l.length + 3 * m ∧ (∀ d ∈ l', shortD d) ∧ s = [.lst (zeros k')] ∧ ρ = [some (.scr ns), some (.ref 0), x2, x3, some (.str z), some (.lst l'), x6, x7, x8, x9, x10, x11]) 8 ?_ ?_ _ _ ⟨k, l, x6, x8, x9, by omega, by omega, hs, rfl, rfl⟩
  · rintro m ρ s hm ⟨k', l', x6, x8, x9, h1, h2, h3, rfl, rfl⟩
    simp
    have hi : ([MO.lst (zeros k')] : Sto)[0]? = some (.lst (zeros k')) := rfl
    refine wp_go (draw_at g_draw (by omega) (by omega) hi (by omega)) ?_
    rintro _ _ ⟨j, j0, j1, rfl, rfl⟩
    obtain ⟨j, rfl⟩ : ∃ i : Nat, j = (i : Int) := ⟨j.toNat, by omega⟩
    simp
    refine wp_go (pick_str g_draw g_pick (by omega) (by decide +kernel) rfl (by omega)) ?_
    rintro _ _ ⟨⟨c, hc, rfl⟩, rfl⟩
    simp [q_slc_str]
    have cl : ∀ lo hi, (cutS z lo hi).length ≤ 1000 := fun lo hi => Nat.le_trans (cutS_length z lo hi) hz
    have c1 : (⟨#[c]⟩ : Str).length = 1 := rfl
    refine add_any (by have := cl none (some (j : Int)); omega) fun z1 hz1 => ?_
    have := cl none (some (j : Int))
    refine add_any (by have := cl (some (j : Int)) none; omega) fun z2 hz2 => ?_
    have := cl (some (j : Int)) none
    refine add_any (by have := cl (some ((j : Int) + 1)) none; omega) fun z3 hz3 => ?_
    have := cl (some ((j : Int) + 1)) none
    refine add_any (by omega) fun z4 hz4 => ?_
    refine add_any (by omega) fun z5 hz5 => ?_
    refine ⟨by omega, k' + 1 + 1, by omega, _, ?_, ?_, rfl, rfl⟩
    · simp; omega
    · intro d hd
      simp at hd
      rcases hd with hd | rfl | rfl | rfl
      · exact h3 d hd
      · exact ⟨_, rfl, by omega⟩
      · exact ⟨_, rfl, by omega⟩
      · exact ⟨_, rfl, by omega⟩
  · rintro ρ s ⟨k', l', x6, x8, x9, h1, h2, h3, rfl, rfl⟩
    exact hq k' l' x6 x8 x9 (by omega) (by omega) h3

theorem wc6 : wc 6 = 381 := by decide
theorem short_lit {x : Str} (h : x.length < 5000) : shortD (.str x) := ⟨x, rfl, h⟩
theorem wf1 (k : Nat) : Wf [.lst (zeros k)] := by
  intro o ho
  simp at ho
  subst ho
  exact zeros_rlt _ _
theorem r8 : srcR1 (.int 8) = some ⟨rngL 0 8, none⟩ := q_rng 8 (by omega)
section
variable {ss : Ss} {Q : Out → Sto → Prop} {x0 x1 x2 x3 x4 x5 x6 x7 x8 x9 x10 x11 : Option D} {w : Wish}
theorem o1 (hn : 20 < n) (hw : w.wok) (hd : w.deep ≤ 6) : wpS (exSs (cfN T gc n) gc (.cons (.asg (.one 4) (.call "_law_say" 1 (.cons (.var 3) .nil))) ss)) [x0, x1, x2, some w.d, x4, x5, x6, x7, x8, x9, x10, x11] st Q = wpS (exSs (cfN T gc n) gc ss) [x0, x1, x2, some w.d, some (.str (toS w.txt)), x5, x6, x7, x8, x9, x10, x11] st Q := by
  simp [say_at g_say w n _ _ _ hw (show w.deep ≤ 20 by omega) (show w.deep < n by omega)]
theorem o2 (hn : 20 < n) (W : Wf st) (hw : w.wok) (hd : w.deep ≤ 6) : wpS (exSs (cfN T gc n) gc (.cons (.ife (.bor (.cons (.not (.call "_law_same" 2 (.cons (.call "text_of" 1 (.cons (.var 3) .nil)) (.cons (.var 4) .nil)))) (.cons (.not (.call "_law_same" 2 (.cons (.call "_law_told" 1 (.cons (.var 4) .nil)) (.cons (.var 3) .nil)))) .nil)))
    (.cons (.ret (.bl false))
    .nil)
    .nil) ss)) [x0, x1, x2, some w.d, some (.str (toS w.txt)), x5, x6, x7, x8, x9, x10, x11] st Q = wpS (exSs (cfN T gc n) gc ss) [x0, x1, x2, some w.d, some (.str (toS w.txt)), x5, x6, x7, x8, x9, x10, x11] st Q := by
  have hl := Wish.txt_len w hw
  have hl2 : 2 ^ w.deep ≤ 2 ^ 6 := Nat.pow_le_pow_right (by omega) hd
  have hl3 : (toS w.txt).length ≤ 320 := by rw [toS_len]; have : 2 ^ 6 = 64 := rfl; omega
  have sm1 : ∀ P E, wp (cfN T gc n "_law_same" [.str (toS w.txt), .str (toS w.txt)]) st P E = P (.bl true) st := fun P E => same_at g_same 1 n _ _ P E (tf_str 0 _) (by omega) (by omega)
  have sm2 : ∀ P E, wp (cfN T gc n "_law_same" [w.d, w.d]) st P E = P (.bl true) st := fun P E => same_at g_same 6 n _ _ P E (Wish.tf w 6 hd) (by omega) (by omega)
  have tt : ∀ P E, wp (cfN T gc n "_law_told" [.str (toS w.txt)]) st P E = P w.d st := fun P E => by
    rw [told_at (by omega) W (by omega)]
    simp [toldD, readRes_txt hw hd]
  simp [text_at rdT w n _ _ _ hw (show w.deep ≤ 20 by omega) (show w.deep < n by omega), sm1, tt, sm2]
theorem o3 {z : Str} (hz : z.length ≤ 1000) (hq : ∀ l : List D, l.length = 11 → (∀ d ∈ l, shortD d) → wpS (exSs (cfN T gc n) gc ss) [x0, x1, x2, x3, some (.str z), some (.lst l), x6, x7, x8, x9, x10, x11] st Q) :
    wpS (exSs (cfN T gc n) gc (.cons (.asg (.one 5) (.lst false (.cons (.bin (.add false) (.var 4) (.var 4)) (.cons (.bin (.add false) (.str " ") (.var 4)) (.cons (.bin (.add false) (.var 4) (.str " ")) (.cons (.rev false (.var 4)) (.cons (.str "") (.cons (.str "~") (.cons (.str "!") (.cons (.str "()") (.cons (.str "(a)") (.cons (.str "(a&b") (.cons (.str "a&b") .nil))))))))))))) ss)) [x0, x1, x2, x3, some (.str z), x5, x6, x7, x8, x9, x10, x11] st Q := by
  have b1 : (Str.ofString " ").length = 1 := by decide +kernel
  simp
  refine add_any (by omega) fun z1 h1 => ?_
  refine add_any (by omega) fun z2 h2 => ?_
  refine add_any (by omega) fun z3 h3 => ?_
  refine hq _ rfl ?_
  intro d hd
  simp only [List.mem_cons, List.not_mem_nil, or_false] at hd
  rcases hd with rfl | rfl | rfl | rfl | rfl | rfl | rfl | rfl | rfl | rfl | rfl
  · exact short_lit (by omega)
  · exact short_lit (by omega)
  · exact short_lit (by omega)
  · exact short_lit (by rw [revS_length]; omega)
  all_goals exact short_lit (by decide +kernel)
theorem o4 {l : List D} (hl : l.length = 11) (hs : ∀ d ∈ l, shortD d) (hq : ∀ l : List D, l.length = 18 → (∀ d ∈ l, shortD d) → wpS (exSs (cfN T gc n) gc ss) [x0, x1, x2, x3, x4, some (.lst l), x6, x7, x8, x9, x10, x11] st Q) :
    wpS (exSs (cfN T gc n) gc (.cons (.asg (.one 5) (.bin (.add false) (.var 5) (.lst false (.cons (.str "abcdef") (.cons (.str "~abcdef") (.cons (.str "!!!!!a") (.cons (.str "!!!!!!a") (.cons (.str "(a&!!!!b)") (.cons (.str "(a&!!!!!b)") (.cons (.str "((a&b)|c)") .nil)))))))))) ss)) [x0, x1, x2, x3, x4, some (.lst l), x6, x7, x8, x9, x10, x11] st Q := by
  simp [hl]
  refine hq _ (by simp [hl]) ?_
  intro d hd
  simp only [List.mem_append, List.mem_cons, List.not_mem_nil, or_false] at hd
  rcases hd with hd | rfl | rfl | rfl | rfl | rfl | rfl | rfl
  · exact hs d hd
  all_goals exact short_lit (by decide +kernel)
theorem o5 {l : List D} (hl : l.length = 18) (hs : ∀ d ∈ l, shortD d) (hq : ∀ l : List D, l.length = 24 → (∀ d ∈ l, shortD d) → wpS (exSs (cfN T gc n) gc ss) [x0, x1, x2, x3, x4, some (.lst l), x6, x7, x8, x9, x10, x11] st Q) :
    wpS (exSs (cfN T gc n) gc (.cons (.asg (.one 5) (.bin (.add false) (.var 5) (.lst false (.cons (.str "~~a") (.cons (.str "!~a") (.cons (.str "~!a") (.cons (.str "(a&b))") (.cons (.str "A") (.cons (.str "a!") .nil))))))))) ss)) [x0, x1, x2, x3, x4, some (.lst l), x6, x7, x8, x9, x10, x11] st Q := by
  simp [hl]
  refine hq _ (by simp [hl]) ?_
  intro d hd
  simp only [List.mem_append, List.mem_cons, List.not_mem_nil, or_false] at hd
  rcases hd with hd | rfl | rfl | rfl | rfl | rfl | rfl
  · exact hs d hd
  all_goals exact short_lit (by decide +kernel)
end
theorem law_pure (hn : 58 < n) (ns : List Int) : wp (cfN T gc (n + 1) "law" [.scr ns]) [] (fun d _ => d = .bl true) noX := by
  rw [w_fn g_law]
  have eN : b_law.N.length - [D.scr ns].length = 11 := rfl
  rw [eN]
  simp only [b_law, List.map_cons, List.map_nil, List.cons_append, List.nil_append, List.replicate]
  rw [ws_cons]
  simp only [ws_asg, we_lst, wa_nil, wp_mkLt, List.length_nil, Nat.zero_le, true_and, q_bt_one, lk_some, List.set_cons_succ, List.set_cons_zero, seqQ_nx, List.nil_append]
  rw [ws_cons, ws_for, wi_rng1, we_int, r8, lk_some]
  refine loop_rng (src := ⟨rngL 0 8, none⟩) rfl (fun m ρ s => ∃ k x2 x3 x4 x5 x6 x7 x8 x9 x10 x11, k ≤ 400 * m ∧ s = [.lst (zeros k)] ∧ ρ = [some (.scr ns), some (.ref 0), x2, x3, x4, x5, x6, x7, x8, x9, x10, x11]) 8 ?_ ?_ _ _ ⟨0, none, none, none, none, none, none, none, none, none, none, by omega, rfl, rfl⟩
  · rintro m ρ s hm ⟨k, x2, x3, x4, x5, x6, x7, x8, x9, x10, x11, hk, rfl, rfl⟩
    have h6 := wc6
    rw [ws_cons]
    simp only [ws_asg, we_call, wa_cons, wa_nil, we_var, we_int, List.set_cons_succ, List.set_cons_zero, List.getElem?_cons_succ, List.getElem?_cons_zero, Option.bind_some, id, lk_some, List.length_cons, List.length_nil]
    rw [if_pos trivial, show D.int 6 = D.int ((6 : Nat) : Int) from rfl]
    refine wp_go (wishX_at g_draw g_pick g_wish 6 n k [.lst (zeros k)] (by omega) (by omega) rfl) ?_
    rintro _ _ ⟨w, k1, rfl, hd, hok, hk1, rfl⟩
    have hwk := hok.wok
    have hd6 : w.deep ≤ 6 := by omega
    have hl := Wish.txt_len w hwk
    have hl2 : 2 ^ w.deep ≤ 2 ^ 6 := Nat.pow_le_pow_right (by omega) hd6
    have hl3 : (toS w.txt).length ≤ 320 := by rw [toS_len]; have : 2 ^ 6 = 64 := rfl; omega
    simp only [q_bt_one, lk_some, seqQ_nx, List.set_cons_zero, List.set_cons_succ]
    rw [o1 (by omega) hwk hd6, o2 (by omega) (wf1 k1) hwk hd6]
    refine o3 (by omega) fun l1 e1 h1 => o4 e1 h1 fun l2 e2 h2 => o5 e2 h2 fun l3 e3 h3 => ?_
    rw [ws_cons, ws_for, wi_rng1, we_int, r8, lk_some]
    refine draw_loop (by omega) (by omega) (by omega) (by omega) h3 ?_
    intro k2 l4 x6 x8 x9 hk2 e4 h4
    rw [seqQ_nx, ws_cons, ws_for, wi_seq, we_var]
    simp only [List.getElem?_cons_succ, List.getElem?_cons_zero, Option.bind_some, id, lk_some, q_sq_lst]
    refine thing_loop (by omega) (wf1 k2) h4 ?_
    intro x7 x10 x11
    rw [seqQ_nx, ws_nil]
    exact ⟨k2, _, _, _, _, _, _, _, _, _, _, by omega, rfl, rfl⟩
  · rintro ρ s ⟨k, x2, x3, x4, x5, x6, x7, x8, x9, x10, x11, hk, rfl, rfl⟩
    simp
    exact fnQ_any (fun i e => by cases e) rfl rfl
end
theorem hpure (ns : List Int) : ∃ st, cfN T gc 60 "law" [.scr ns] [] = some (.ok (.bl true), st) := by
  obtain ⟨d, st, h, rfl⟩ := wp_ok (law_pure (n := 59) (by omega) ns)
  exact ⟨st, h⟩
theorem holds : PySem.Challenge.rw_trybook_k10_whole_wishes_as_texts.Holds := law_of (n := 60) (by omega) fun ns _ => hpure ns
end TBP

theorem PySem.Challenge.cw_trybook_k10_whole_wishes_as_texts_holds : PySem.Challenge.rw_trybook_k10_whole_wishes_as_texts.Holds := by
  exact TBP.holds
