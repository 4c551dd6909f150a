import PyProof.Rows.All
import Wide.All
import OpenK.AllK
import Wide.FinOn
import HandS.ForMost
import HandS.Flow
import HandS.Exc
import HandS.ExcOwn
import HandS.TryOnly
import HandS.WordsExc
import HandS.IsInst
import HandS.TupAny
import HandS.TupMul
import HandS.Deep
import HandS.Conv
import HandS.Style
import HandS.Zip
import HandS.Defaults
import HandS.HeadEnd
import HandS.HeadHook2
import PySem.Challenge.RW_trybook_k09_whole_tries_chosen
import KE.KStateDown
import Lean
import HandS.More
import HandS.Head0
import HandS.Head1
import HandS.Head2
import HandS.Codes
set_option Elab.async false
set_option linter.all false
set_option maxRecDepth 100000
set_option maxHeartbeats 4000000
/-! TB0: data, the store, and how they stand in the abstract heap of the hand layer -/
namespace TB
open PySem PySem.Spec L2

/-- a value of mine: tuples and lists that are never changed are values; ref n: the n-th object of the store -/
inductive D where
  | non | bl (b : Bool) | int (i : Int) | str (x : Str) | tup (l : List D) | lst (l : List D) | ref (n : Nat) | fn (f : Str) | scr (l : List Int)
  deriving Inhabited

/-- an object that may change -/
inductive MO where
  | lst (l : List D) | dct (kvs : List (Key × D)) | ins (c : Str) (fs : List (Str × D))
  deriving Inhabited

abbrev Sto := List MO

mutual
def D.py : D → Option PyData
  | .non => some .none
  | .bl b => some (.bool b)
  | .int i => some (.int i)
  | .str x => some (.str x)
  | .tup l => (D.pys l).map .tuple
  | .lst l => (D.pys l).map .list
  | .ref _ => none
  | .fn _ => none
  | .scr _ => none
def D.pys : List D → Option (List PyData)
  | [] => some []
  | d :: l => do let a ← D.py d; let b ← D.pys l; pure (a :: b)
end

/-! ### how values stand -/
/-- a list of the written part -/
def KL (K : PySem.W.Frag) (a : Addr) (xs : List V) : Prop :=
  ∃ (o : Obj) (its : Array Value) (n : Nat), K.lookup a = some o ∧ o.cls = .type "list" ∧ o.dict = none ∧ o.data = .seq its n ∧ its.size ≤ sizeLine ∧ Vals xs its.toList
/-- a list that is never changed -/
def FrL (H : Hp) (al be : List Addr) (a : Addr) (xs : List V) : Prop := H a = some (.lst xs) ∧ a ∉ al ∧ a ∉ be
/-- the script -/
def ScL (K : PySem.W.Frag) (H : Hp) (a : Addr) (xs : List V) : Prop := (∃ o, H a = some (.frz o (.lst xs))) ∨ KL K a xs
theorem FrL.sq {K : PySem.W.Frag} {H : Hp} {al be : List Addr} {a : Addr} {xs : List V} (h : FrL H al be a xs) : SqL K H a xs := .of h.1
theorem ScL.sq {K : PySem.W.Frag} {H : Hp} {a : Addr} {xs : List V} (h : ScL K H a xs) : SqL K H a xs := by
  rcases h with h | h
  · exact .inl (.inr h)
  · exact .inr h

mutual
inductive RV (K : PySem.W.Frag) (gf : Str → Option Addr) (H : Hp) (al be : List Addr) : D → V → Prop
  | non : RV K gf H al be .non .non
  | bl (b : Bool) : RV K gf H al be (.bl b) (.bl b)
  | int (i : Int) : RV K gf H al be (.int i) (.int i)
  | str {x : Str} : PyData.strOk x = true → x.length ≤ sizeLine → RV K gf H al be (.str x) (.str x)
  | tup {a : Addr} {ds : List D} {vs : List V} : SqT K H a vs → RVs K gf H al be ds vs → ds.length ≤ sizeLine → RV K gf H al be (.tup ds) (.ref a)
  | lst {a : Addr} {ds : List D} {vs : List V} : FrL H al be a vs → RVs K gf H al be ds vs → ds.length ≤ sizeLine → RV K gf H al be (.lst ds) (.ref a)
  | ref {n : Nat} {a : Addr} : al[n]? = some a → RV K gf H al be (.ref n) (.ref a)
  | fn {f : Str} {a : Addr} : gf f = some a → RV K gf H al be (.fn f) (.ref a)
  | scr {a : Addr} {l : List Int} : ScL K H a (l.map V.int) → l.length ≤ sizeLine → RV K gf H al be (.scr l) (.ref a)
inductive RVs (K : PySem.W.Frag) (gf : Str → Option Addr) (H : Hp) (al be : List Addr) : List D → List V → Prop
  | nil : RVs K gf H al be [] []
  | cons {d : D} {v : V} {ds : List D} {vs : List V} : RV K gf H al be d v → RVs K gf H al be ds vs → RVs K gf H al be (d :: ds) (v :: vs)
end

section
variable {K : PySem.W.Frag} {gf : Str → Option Addr} {H H1 H2 : Hp} {al al1 al2 be be1 be2 : List Addr} {st : Sto}

/-- what grows from (H, al) to (H1, al1) -/
structure Gr (K : PySem.W.Frag) (be : List Addr) (H : Hp) (al : List Addr) (be1 : List Addr) (H1 : Hp) (al1 : List Addr) : Prop where
  pre : ∃ de, al1 = al ++ de
  tup : ∀ a xs, SqT K H a xs → SqT K H1 a xs
  frl : ∀ a xs, FrL H al be a xs → FrL H1 al1 be1 a xs
  scr : ∀ a xs, ScL K H a xs → ScL K H1 a xs
structure Ext (K : PySem.W.Frag) (be : List Addr) (H : Hp) (al : List Addr) (H1 : Hp) (al1 : List Addr) : Prop extends Gr K be H al be H1 al1 where
  res : ∀ b ∈ be, H1 b = H b
theorem Gr.refl : Gr K be H al be H al := ⟨⟨[], by simp⟩, fun _ _ h => h, fun _ _ h => h, fun _ _ h => h⟩
theorem Gr.trans (a : Gr K be H al be1 H1 al1) (b : Gr K be1 H1 al1 be2 H2 al2) : Gr K be H al be2 H2 al2 := by
  obtain ⟨d1, e1⟩ := a.pre
  obtain ⟨d2, e2⟩ := b.pre
  exact ⟨⟨d1 ++ d2, by rw [e2, e1, List.append_assoc]⟩, fun x y h => b.tup x y (a.tup x y h), fun x y h => b.frl x y (a.frl x y h), fun x y h => b.scr x y (a.scr x y h)⟩
theorem Ext.refl : Ext K be H al H al := ⟨Gr.refl, fun _ _ => rfl⟩
theorem Ext.trans (a : Ext K be H al H1 al1) (b : Ext K be H1 al1 H2 al2) : Ext K be H al H2 al2 := ⟨a.toGr.trans b.toGr, fun x hx => (b.res x hx).trans (a.res x hx)⟩

mutual
theorem RV.gr (e : Gr K be H al be1 H1 al1) : ∀ {d : D} {v : V}, RV K gf H al be d v → RV K gf H1 al1 be1 d v
  | _, _, .non => .non
  | _, _, .bl b => .bl b
  | _, _, .int i => .int i
  | _, _, .str h h' => .str h h'
  | _, _, .tup h hs z => .tup (e.tup _ _ h) (RVs.gr e hs) z
  | _, _, .lst h hs z => .lst (e.frl _ _ h) (RVs.gr e hs) z
  | _, _, .ref h => by
    obtain ⟨de, q⟩ := e.pre
    refine .ref ?_
    rw [q, List.getElem?_append_left (List.getElem?_eq_some_iff.mp h).1]
    exact h
  | _, _, .fn h => .fn h
  | _, _, .scr h z => .scr (e.scr _ _ h) z
theorem RVs.gr (e : Gr K be H al be1 H1 al1) : ∀ {ds : List D} {vs : List V}, RVs K gf H al be ds vs → RVs K gf H1 al1 be1 ds vs
  | _, _, .nil => .nil
  | _, _, .cons h hs => .cons (RV.gr e h) (RVs.gr e hs)
end
theorem RV.ext (e : Ext K be H al H1 al1) {d : D} {v : V} (h : RV K gf H al be d v) : RV K gf H1 al1 be d v := h.gr e.toGr
theorem RVs.ext (e : Ext K be H al H1 al1) {d : List D} {v : List V} (h : RVs K gf H al be d v) : RVs K gf H1 al1 be d v := h.gr e.toGr

theorem RVs.length : ∀ {ds : List D} {vs : List V}, RVs K gf H al be ds vs → ds.length = vs.length
  | _, _, .nil => rfl
  | _, _, .cons _ hs => by rw [List.length_cons, List.length_cons, RVs.length hs]
theorem RVs.get : ∀ {ds : List D} {vs : List V} {i : Nat} {d : D}, RVs K gf H al be ds vs → ds[i]? = some d → ∃ v, vs[i]? = some v ∧ RV K gf H al be d v
  | _, _, _, _, .nil, e => by simp at e
  | _, _, 0, _, .cons h _, e => by simp at e; subst e; exact ⟨_, rfl, h⟩
  | _, _, i + 1, d, .cons _ hs, e => by
    obtain ⟨v, h1, h2⟩ := RVs.get (i := i) (d := d) hs (by simpa using e)
    exact ⟨v, by simpa using h1, h2⟩
theorem RVs.get' : ∀ {ds : List D} {vs : List V} {i : Nat} {v : V}, RVs K gf H al be ds vs → vs[i]? = some v → ∃ d, ds[i]? = some d ∧ RV K gf H al be d v
  | _, _, _, _, .nil, e => by simp at e
  | _, _, 0, _, .cons h _, e => by simp at e; subst e; exact ⟨_, rfl, h⟩
  | _, _, i + 1, d, .cons _ hs, e => by
    obtain ⟨v, h1, h2⟩ := RVs.get' (i := i) (v := d) hs (by simpa using e)
    exact ⟨v, by simpa using h1, h2⟩
theorem RVs.append : ∀ {ds es : List D} {vs us : List V}, RVs K gf H al be ds vs → RVs K gf H al be es us → RVs K gf H al be (ds ++ es) (vs ++ us)
  | _, _, _, _, .nil, h => h
  | _, _, _, _, .cons h hs, k => .cons h (RVs.append hs k)
theorem RVs.take : ∀ {ds : List D} {vs : List V} (n : Nat), RVs K gf H al be ds vs → RVs K gf H al be (ds.take n) (vs.take n)
  | _, _, 0, _ => .nil
  | _, _, _ + 1, .nil => .nil
  | _, _, n + 1, .cons h hs => .cons h (RVs.take n hs)
theorem RVs.drop : ∀ {ds : List D} {vs : List V} (n : Nat), RVs K gf H al be ds vs → RVs K gf H al be (ds.drop n) (vs.drop n)
  | _, _, 0, h => h
  | _, _, _ + 1, .nil => .nil
  | _, _, n + 1, .cons _ hs => RVs.drop n hs
theorem RVs.reverse : ∀ {ds : List D} {vs : List V}, RVs K gf H al be ds vs → RVs K gf H al be ds.reverse vs.reverse
  | _, _, .nil => .nil
  | _, _, .cons h hs => by
    rw [List.reverse_cons, List.reverse_cons]
    exact (RVs.reverse hs).append (.cons h .nil)
theorem RVs.set {d : D} {v : V} (r : RV K gf H al be d v) : ∀ {ds : List D} {vs : List V} (i : Nat), RVs K gf H al be ds vs → RVs K gf H al be (ds.set i d) (vs.set i v)
  | _, _, _, .nil => .nil
  | _, _, 0, .cons _ hs => .cons r hs
  | _, _, i + 1, .cons h hs => .cons h (RVs.set r i hs)
theorem RVs.eraseIdx : ∀ {ds : List D} {vs : List V} (i : Nat), RVs K gf H al be ds vs → RVs K gf H al be (ds.eraseIdx i) (vs.eraseIdx i)
  | _, _, _, .nil => .nil
  | _, _, 0, .cons _ hs => hs
  | _, _, i + 1, .cons h hs => .cons h (RVs.eraseIdx i hs)
theorem RVs.rep {ds : List D} {vs : List V} (h : RVs K gf H al be ds vs) : ∀ k : Nat, RVs K gf H al be (List.replicate k ds).flatten (List.replicate k vs).flatten
  | 0 => .nil
  | k + 1 => by
    rw [List.replicate_succ, List.replicate_succ, List.flatten_cons, List.flatten_cons]
    exact h.append (RVs.rep h k)

/-! data that hold no object: as the layer reads them -/
mutual
theorem RV.dp : ∀ {d : D} {v : V} {p : PyData}, RV K gf H al be d v → d.py = some p → Dp K H v p ∧ p.canLay0 = true
  | _, _, _, .non, e => by cases e; exact ⟨.non, rfl⟩
  | _, _, _, .bl b, e => by cases e; exact ⟨.bl b, rfl⟩
  | _, _, _, .int i, e => by cases e; exact ⟨.int i, rfl⟩
  | _, _, _, .str h _, e => by cases e; exact ⟨.str _, h⟩
  | .tup ds, _, p, .tup h hs _, e => by
    simp only [D.py, Option.map_eq_some_iff] at e
    obtain ⟨ps, e1, rfl⟩ := e
    obtain ⟨q1, q2⟩ := RVs.dp hs e1
    exact ⟨.tup h q1, by simpa only [PyData.canLay0] using q2⟩
  | .lst ds, _, p, .lst h hs _, e => by
    simp only [D.py, Option.map_eq_some_iff] at e
    obtain ⟨ps, e1, rfl⟩ := e
    obtain ⟨q1, q2⟩ := RVs.dp hs e1
    exact ⟨.lst h.sq q1, by simpa only [PyData.canLay0] using q2⟩
  | _, _, _, .ref _, e => by cases e
  | _, _, _, .fn _, e => by cases e
  | _, _, _, .scr _ _, e => by cases e
theorem RVs.dp : ∀ {ds : List D} {vs : List V} {ps : List PyData}, RVs K gf H al be ds vs → D.pys ds = some ps → DpAll K H vs ps ∧ PyData.canLayAll0 ps = true
  | _, _, _, .nil, e => by cases e; exact ⟨.nil, rfl⟩
  | d :: ds, _, ps, .cons h hs, e => by
    simp only [D.pys, Option.bind_eq_bind, Option.bind_eq_some_iff, Option.pure_def, Option.some.injEq] at e
    obtain ⟨a, e1, b, e2, rfl⟩ := e
    obtain ⟨q1, q2⟩ := RV.dp h e1
    obtain ⟨q3, q4⟩ := RVs.dp hs e2
    exact ⟨.cons q1 q3, by simp only [PyData.canLayAll0, q2, q4]; rfl⟩
end

/-! ### the store -/
/-- pairs by equal keys -/
inductive RPs (K : PySem.W.Frag) (gf : Str → Option Addr) (H : Hp) (al be : List Addr) {ka : Type} : List (ka × D) → List (ka × V) → Prop
  | nil : RPs K gf H al be [] []
  | cons {k : ka} {d : D} {v : V} {ds : List (ka × D)} {vs : List (ka × V)} : RV K gf H al be d v → RPs K gf H al be ds vs → RPs K gf H al be ((k, d) :: ds) ((k, v) :: vs)
theorem RPs.gr {ka : Type} (e : Gr K be H al be1 H1 al1) : ∀ {ds : List (ka × D)} {vs : List (ka × V)}, RPs K gf H al be ds vs → RPs K gf H1 al1 be1 ds vs
  | _, _, .nil => .nil
  | _, _, .cons h hs => .cons (h.gr e) (RPs.gr e hs)
theorem RPs.ext {ka : Type} (e : Ext K be H al H1 al1) {ds : List (ka × D)} {vs : List (ka × V)} (h : RPs K gf H al be ds vs) : RPs K gf H1 al1 be ds vs := h.gr e.toGr
theorem RPs.length {ka : Type} : ∀ {ds : List (ka × D)} {vs : List (ka × V)}, RPs K gf H al be ds vs → ds.length = vs.length
  | _, _, .nil => rfl
  | _, _, .cons _ hs => by rw [List.length_cons, List.length_cons, RPs.length hs]

/-- a key that may be told again -/
def keyOk : Key → Prop
  | .inl _ => True
  | .inr x => PyData.strOk x = true ∧ x.length ≤ sizeLine
def KsOk (kvs : List (Key × D)) : Prop := ∀ kv ∈ kvs, keyOk kv.1
/-- an object of the store, at its address -/
def RO (K : PySem.W.Frag) (gf : Str → Option Addr) (H : Hp) (al be : List Addr) (a : Addr) : MO → Prop
  | .lst ds => ∃ vs, H a = some (.lst vs) ∧ RVs K gf H al be ds vs ∧ ds.length ≤ sizeLine
  | .dct kvs => ∃ ws, H a = some (.dK ws) ∧ RPs K gf H al be kvs ws ∧ KsOk kvs
  | .ins c fs => ∃ C dx gs, H a = some (.ins C dx gs) ∧ H dx = some (.own a) ∧ gf c = some C ∧ RPs K gf H al be fs gs

structure SR (K : PySem.W.Frag) (gf : Str → Option Addr) (H : Hp) (al be : List Addr) (st : Sto) : Prop where
  len : al.length = st.length
  nd : al.Nodup
  dis : ∀ b ∈ be, b ∉ al
  res : ∀ b ∈ be, ∃ vs, H b = some (.lst vs)
  obj : ∀ (i : Nat) o a, st[i]? = some o → al[i]? = some a → RO K gf H al be a o

theorem RO.gr (e : Gr K be H al be1 H1 al1) {a : Addr} (h0 : H1 a = H a) (h1 : ∀ dx, H dx = some (.own a) → H1 dx = some (.own a)) : ∀ {o : MO}, RO K gf H al be a o → RO K gf H1 al1 be1 a o
  | .lst ds, ⟨vs, q, r, z⟩ => ⟨vs, h0.trans q, r.gr e, z⟩
  | .dct kvs, ⟨ws, q, r, z⟩ => ⟨ws, h0.trans q, r.gr e, z⟩
  | .ins c fs, ⟨C, dx, gs, q, q1, q2, r⟩ => ⟨C, dx, gs, h0.trans q, h1 _ q1, q2, r.gr e⟩
theorem RO.ext (e : Ext K be H al H1 al1) {a : Addr} (h0 : H1 a = H a) (h1 : ∀ dx, H dx = some (.own a) → H1 dx = some (.own a)) : ∀ {o : MO}, RO K gf H al be a o → RO K gf H1 al1 be a o
  | .lst ds, ⟨vs, q, r, z⟩ => ⟨vs, h0.trans q, r.ext e, z⟩
  | .dct kvs, ⟨ws, q, r, z⟩ => ⟨ws, h0.trans q, r.ext e, z⟩
  | .ins c fs, ⟨C, dx, gs, q, q1, q2, r⟩ => ⟨C, dx, gs, h0.trans q, h1 _ q1, q2, r.ext e⟩
theorem RO.mut {a : Addr} : ∀ {o : MO}, RO K gf H al be a o → Mut (H a)
  | .lst ds, ⟨vs, q, r⟩ => by rw [q]; trivial
  | .dct kvs, ⟨ws, q, r⟩ => by rw [q]; trivial
  | .ins c fs, ⟨C, dx, gs, q, _⟩ => by rw [q]; trivial

theorem SR.at (S : SR K gf H al be st) {i : Nat} {o : MO} (h : st[i]? = some o) : ∃ a, al[i]? = some a ∧ RO K gf H al be a o := by
  have hl : i < al.length := by rw [S.len]; exact (List.getElem?_eq_some_iff.mp h).1
  exact ⟨al[i], by simp [hl], S.obj i o _ h (by simp [hl])⟩
theorem SR.at' (S : SR K gf H al be st) {i : Nat} {a : Addr} (h : al[i]? = some a) : ∃ o, st[i]? = some o ∧ RO K gf H al be a o := by
  have hl : i < st.length := by rw [← S.len]; exact (List.getElem?_eq_some_iff.mp h).1
  exact ⟨st[i], by simp [hl], S.obj i _ a (by simp [hl]) h⟩
theorem SR.mem (S : SR K gf H al be st) {a : Addr} (h : a ∈ al) : ∃ o, RO K gf H al be a o := by
  obtain ⟨i, hi⟩ := List.mem_iff_getElem?.mp h
  obtain ⟨o, _, r⟩ := S.at' hi
  exact ⟨o, r⟩

/-- a new object that is no store object: a tuple, a list that stays -/
theorem Ext.new {p : Addr} {o : HO} (hp : H p = none) (S : SR K gf H al be st) : Ext K be H al (upd H p o) al := by
  refine ⟨⟨⟨[], by simp⟩, fun a xs h => ?_, fun a xs h => ?_, fun a xs h => ?_⟩, fun b hb => ?_⟩
  · rcases h with (h | ⟨ob, h⟩) | h
    · exact .inl (.inl (by rw [upd_ne (ne_of_none h hp)]; exact h))
    · exact .inl (.inr ⟨ob, by rw [upd_ne (ne_of_none h hp)]; exact h⟩)
    · exact .inr h
  · obtain ⟨h, h1⟩ := h
    exact ⟨by rw [upd_ne (ne_of_none h hp)]; exact h, h1⟩
  · rcases h with ⟨ob, h⟩ | h
    · exact .inl ⟨ob, by rw [upd_ne (ne_of_none h hp)]; exact h⟩
    · exact .inr h
  · obtain ⟨vs, q⟩ := S.res b hb
    rw [upd_ne (ne_of_none q hp)]
theorem SR.new {p : Addr} {o : HO} (hp : H p = none) (S : SR K gf H al be st) : SR K gf (upd H p o) al be st := by
  have e := Ext.new (o := o) hp S
  refine ⟨S.len, S.nd, S.dis, fun b hb => ?_, fun i ob a h1 h2 => ?_⟩
  · obtain ⟨vs, q⟩ := S.res b hb
    exact ⟨vs, (e.res b hb).trans q⟩
  · have r := S.obj i ob a h1 h2
    have hne : a ≠ p := fun z => by
      have := r.mut
      rw [z, hp] at this
      exact this
    exact r.ext e (upd_ne hne) fun dx q => by rw [upd_ne (ne_of_none q hp)]; exact q
/-- .. and it becomes a store object -/
theorem Ext.push {p : Addr} {o : HO} (hp : H p = none) (S : SR K gf H al be st) : Ext K be H al (upd H p o) (al ++ [p]) := by
  have e := Ext.new (o := o) hp S
  refine ⟨⟨⟨[p], rfl⟩, e.tup, fun a xs h => ?_, e.scr⟩, e.res⟩
  obtain ⟨h, h1, h2⟩ := h
  have hne : a ≠ p := ne_of_none h hp
  refine ⟨by rw [upd_ne hne]; exact h, ?_, h2⟩
  simp only [List.mem_append, List.mem_singleton, not_or]
  exact ⟨h1, hne⟩
theorem SR.push {p : Addr} {o : HO} {mo : MO} (hp : H p = none) (S : SR K gf H al be st) (r : RO K gf (upd H p o) (al ++ [p]) be p mo) : SR K gf (upd H p o) (al ++ [p]) be (st ++ [mo]) := by
  have e := Ext.push (o := o) hp S
  have npal : p ∉ al := fun h => by
    obtain ⟨ob, r⟩ := S.mem h
    have := r.mut
    rw [hp] at this
    exact this
  refine ⟨by simp [S.len], ?_, fun b hb => ?_, fun b hb => ?_, fun i ob a h1 h2 => ?_⟩
  · rw [List.nodup_append]
    exact ⟨S.nd, by simp, fun a ha b hb => by simp at hb; subst hb; rintro rfl; exact npal ha⟩
  · obtain ⟨vs, q⟩ := S.res b hb
    simp only [List.mem_append, List.mem_singleton, not_or]
    exact ⟨S.dis b hb, ne_of_none q hp⟩
  · obtain ⟨vs, q⟩ := S.res b hb
    exact ⟨vs, (e.res b hb).trans q⟩
  · by_cases hi : i < st.length
    · rw [List.getElem?_append_left hi] at h1
      rw [List.getElem?_append_left (by rw [S.len]; exact hi)] at h2
      have r' := S.obj i ob a h1 h2
      have hne : a ≠ p := fun z => by
        have := r'.mut
        rw [z, hp] at this
        exact this
      exact r'.ext e (upd_ne hne) fun dx q => by rw [upd_ne (ne_of_none q hp)]; exact q
    · have hi' : i = st.length := by
        have := (List.getElem?_eq_some_iff.mp h1).1
        simp at this; omega
      subst hi'
      rw [List.getElem?_append_right (Nat.le_refl _)] at h1
      rw [List.getElem?_append_right (by rw [S.len]; exact Nat.le_refl _)] at h2
      simp [S.len] at h1 h2
      subst h1 h2
      exact r
/-- an object of the store is changed -/
theorem Ext.write {i : Nat} {a : Addr} {o : HO} (S : SR K gf H al be st) (ha : al[i]? = some a) : Ext K be H al (upd H a o) al := by
  have hmem : a ∈ al := List.mem_of_getElem? ha
  obtain ⟨ob, r⟩ := S.mem hmem
  have mu := r.mut
  refine ⟨⟨⟨[], by simp⟩, fun b xs h => ?_, fun b xs h => ?_, fun b xs h => ?_⟩, fun b hb => ?_⟩
  · rcases h with (h | ⟨ob, h⟩) | h
    · have hne : b ≠ a := fun z => by rw [← z, h] at mu; exact mu
      exact .inl (.inl (by rw [upd_ne hne]; exact h))
    · have hne : b ≠ a := fun z => by rw [← z, h] at mu; exact mu
      exact .inl (.inr ⟨ob, by rw [upd_ne hne]; exact h⟩)
    · exact .inr h
  · obtain ⟨h, h1, h2⟩ := h
    have hne : b ≠ a := fun z => h1 (z ▸ hmem)
    exact ⟨by rw [upd_ne hne]; exact h, h1, h2⟩
  · rcases h with ⟨ob, h⟩ | h
    · have hne : b ≠ a := fun z => by rw [← z, h] at mu; exact mu
      exact .inl ⟨ob, by rw [upd_ne hne]; exact h⟩
    · exact .inr h
  · exact upd_ne fun z => S.dis b hb (z ▸ hmem)
theorem SR.write {i : Nat} {a : Addr} {o : HO} {mo : MO} (S : SR K gf H al be st) (ha : al[i]? = some a) (r : RO K gf (upd H a o) al be a mo) : SR K gf (upd H a o) al be (st.set i mo) := by
  have e := Ext.write (o := o) S ha
  have hmem : a ∈ al := List.mem_of_getElem? ha
  obtain ⟨ob0, r0⟩ := S.mem hmem
  have mu := r0.mut
  refine ⟨by simp [S.len], S.nd, S.dis, fun b hb => ?_, fun j ob b h1 h2 => ?_⟩
  · obtain ⟨vs, q⟩ := S.res b hb
    exact ⟨vs, (e.res b hb).trans q⟩
  · by_cases hj : j = i
    · subst hj
      have hl : j < st.length := by rw [← S.len]; exact (List.getElem?_eq_some_iff.mp ha).1
      rw [List.getElem?_set_self hl] at h1
      rw [ha] at h2
      cases h1; cases h2
      exact r
    · rw [List.getElem?_set_ne (Ne.symm hj)] at h1
      have r' := S.obj j ob b h1 h2
      have hne : b ≠ a := fun z => by
        subst z
        obtain ⟨x1, y1⟩ := List.getElem?_eq_some_iff.mp h2
        obtain ⟨x2, y2⟩ := List.getElem?_eq_some_iff.mp ha
        exact hj ((List.getElem_inj S.nd).mp (y1.trans y2.symm))
      exact r'.ext e (upd_ne hne) fun dx q => by
        have : dx ≠ a := fun z => by rw [← z, q] at mu; exact mu
        rw [upd_ne this]; exact q
end
end TB
set_option Elab.async false
set_option linter.all false
set_option maxRecDepth 100000
set_option maxHeartbeats 4000000
/-! TB1: the monad, what a reading by it is, expressions -/
namespace TB
open PySem PySem.Spec L2

inductive Res (τ : Type) where
  | ok (t : τ) | exn (c : Str)
abbrev M (τ : Type) := Sto → Option (Res τ × Sto)
namespace M
variable {τ υ : Type}
def pure (t : τ) : M τ := fun st => some (.ok t, st)
def bind (m : M τ) (f : τ → M υ) : M υ := fun st => match m st with
  | none => none
  | some (.ok t, st1) => f t st1
  | some (.exn c, st1) => some (.exn c, st1)
def stuck : M τ := fun _ => none
/-- a look at the store -/
def look (f : Sto → Option τ) : M τ := fun st => match f st with
  | none => none
  | some t => some (.ok t, st)
def quiet (m : M τ) : M τ := fun st => match m st with
  | some (.ok t, st1) => some (.ok t, st1)
  | _ => none
end M
instance : Monad M where
  pure := M.pure
  bind := M.bind
@[simp] theorem M.bind_eq {τ υ : Type} (m : M τ) (f : τ → M υ) : (m >>= f) = M.bind m f := rfl
@[simp] theorem M.pure_eq {τ : Type} (t : τ) : (Pure.pure t : M τ) = M.pure t := rfl

theorem M.bind_ok {τ υ : Type} {m : M τ} {f : τ → M υ} {st st2 : Sto} {t : υ} (h : M.bind m f st = some (.ok t, st2)) : ∃ a st1, m st = some (.ok a, st1) ∧ f a st1 = some (.ok t, st2) := by
  unfold M.bind at h
  split at h
  · cases h
  · exact ⟨_, _, by assumption, h⟩
  · cases h
theorem M.bind_exn {τ υ : Type} {m : M τ} {f : τ → M υ} {st st2 : Sto} {c : Str} (h : M.bind m f st = some (.exn c, st2)) : m st = some (.exn c, st2) ∨ ∃ a st1, m st = some (.ok a, st1) ∧ f a st1 = some (.exn c, st2) := by
  unfold M.bind at h
  split at h
  · cases h
  · exact .inr ⟨_, _, by assumption, h⟩
  · cases h; exact .inl (by assumption)
theorem M.bind_of {τ υ : Type} {m : M τ} {f : τ → M υ} {st st1 : Sto} {a : τ} (h : m st = some (.ok a, st1)) : M.bind m f st = f a st1 := by
  unfold M.bind; rw [h]
theorem M.quiet_ok {τ : Type} {m : M τ} {st st1 : Sto} {a : τ} (h : M.quiet m st = some (.ok a, st1)) : m st = some (.ok a, st1) := by
  unfold M.quiet at h
  split at h
  · rename_i h1; cases h; exact h1
  · cases h
theorem M.quiet_exn {τ : Type} {m : M τ} {st st1 : Sto} {c : Str} (h : M.quiet m st = some (.exn c, st1)) : False := by
  unfold M.quiet at h
  split at h <;> cases h
abbrev Lo := List (Option D)

section
variable {τ υ : Type} {K : PySem.W.Frag} {gf : Str → Option Addr} {be : List Addr}

/-- what is wanted behind a run -/
def Post (K : PySem.W.Frag) (gf : Str → Option Addr) (be : List Addr) (W : Str → Hp → Prop) (H : Hp) (al : List Addr) (r : Option (Res τ × Sto)) (k : τ → Sto → Hp → List Addr → Prop) : Prop :=
  match r with
  | none => False
  | some (.ok t, st1) => ∀ H1 al1, SR K gf H1 al1 be st1 → Ext K be H al H1 al1 → k t st1 H1 al1
  | some (.exn c, st1) => ∀ H1 al1, SR K gf H1 al1 be st1 → Ext K be H al H1 al1 → W c H1
theorem Post.mono {W : Str → Hp → Prop} {H : Hp} {al : List Addr} {r : Option (Res τ × Sto)} {k k' : τ → Sto → Hp → List Addr → Prop} (p : Post K gf be W H al r k)
    (h : ∀ t st1 H1 al1, SR K gf H1 al1 be st1 → Ext K be H al H1 al1 → k t st1 H1 al1 → k' t st1 H1 al1) : Post K gf be W H al r k' := by
  match r, p with
  | some (.ok t, st1), p => exact fun H1 al1 S e => h t st1 H1 al1 S e (p H1 al1 S e)
  | some (.exn c, st1), p => exact p
theorem Post.ext {W : Str → Hp → Prop} {H H1 : Hp} {al al1 : List Addr} {r : Option (Res τ × Sto)} {k : τ → Sto → Hp → List Addr → Prop} (p : Post K gf be W H al r k) (e : Ext K be H al H1 al1) : Post K gf be W H1 al1 r k := by
  match r, p with
  | some (.ok t, st1), p => exact fun H2 al2 S e2 => p H2 al2 S (e.trans e2)
  | some (.exn c, st1), p => exact fun H2 al2 S e2 => p H2 al2 S (e.trans e2)
theorem Post.bind {W : Str → Hp → Prop} {H : Hp} {al : List Addr} {st : Sto} {m : M τ} {f : τ → M υ} {k : υ → Sto → Hp → List Addr → Prop} (p : Post K gf be W H al (M.bind m f st) k) :
    Post K gf be W H al (m st) (fun t st1 H1 al1 => Post K gf be W H1 al1 (f t st1) k) := by
  unfold M.bind at p
  match h : m st with
  | none => rw [h] at p; exact p
  | some (.ok t, st1) => rw [h] at p; exact fun H1 al1 S e => p.ext e
  | some (.exn c, st1) => rw [h] at p; exact p
theorem Post.ok {W : Str → Hp → Prop} {H : Hp} {al : List Addr} {t : τ} {st1 : Sto} {k : τ → Sto → Hp → List Addr → Prop} (p : Post K gf be W H al (some (.ok t, st1)) k) (S : SR K gf H al be st1) : k t st1 H al := p H al S Ext.refl
theorem Post.look {W : Str → Hp → Prop} {H : Hp} {al : List Addr} {st : Sto} {f : Sto → Option τ} {k : τ → Sto → Hp → List Addr → Prop} (p : Post K gf be W H al (M.look f st) k) (S : SR K gf H al be st) : ∃ t, f st = some t ∧ k t st H al := by
  unfold M.look at p
  match h : f st with
  | none => rw [h] at p; exact p.elim
  | some t => rw [h] at p; exact ⟨t, rfl, p.ok S⟩
theorem Post.quiet {W W' : Str → Hp → Prop} {H : Hp} {al : List Addr} {st : Sto} {m : M τ} {k : τ → Sto → Hp → List Addr → Prop} (p : Post K gf be W H al (M.quiet m st) k) : Post K gf be W' H al (m st) k := by
  unfold M.quiet at p
  match h : m st with
  | none => rw [h] at p; exact p
  | some (.ok t, st1) => rw [h] at p; exact p
  | some (.exn c, st1) => rw [h] at p; exact p.elim

/-- the slots -/
structure RS (K : PySem.W.Frag) (gf : Str → Option Addr) (H : Hp) (al be : List Addr) (ρ : Lo) (σ : St) : Prop where
  len : ρ.length = σ.length
  val : ∀ (i : Nat) d, ρ[i]? = some (some d) → ∃ v, σ[i]? = some (some v) ∧ RV K gf H al be d v
theorem RS.ext {H H1 : Hp} {al al1 : List Addr} {ρ : Lo} {σ : St} (L : RS K gf H al be ρ σ) (e : Ext K be H al H1 al1) : RS K gf H1 al1 be ρ σ :=
  ⟨L.len, fun i d h => let ⟨v, h1, h2⟩ := L.val i d h; ⟨v, h1, h2.ext e⟩⟩
theorem RS.set {H : Hp} {al : List Addr} {ρ : Lo} {σ : St} (L : RS K gf H al be ρ σ) {i : Nat} {d : D} {v : V} (r : RV K gf H al be d v) : RS K gf H al be (ρ.set i (some d)) (σ.set i (some v)) := by
  refine ⟨by simp [L.len], fun j e h => ?_⟩
  by_cases hj : i = j
  · subst hj
    by_cases hl : i < ρ.length
    · rw [List.getElem?_set_self hl] at h
      rw [List.getElem?_set_self (by rw [← L.len]; exact hl)]
      cases h
      exact ⟨v, rfl, r⟩
    · rw [List.getElem?_eq_none (by simpa using hl)] at h
      cases h
  · rw [List.getElem?_set_ne hj] at h
    rw [List.getElem?_set_ne hj]
    exact L.val j e h

/-- what an exception of the class c meets -/
def wx (gf : Str → Option Addr) (W : WX) (σ : St) : Str → Hp → Prop := fun c H => ∃ C, gf c = some C ∧ W (.ref C) none σ H

def rdE (K : PySem.W.Frag) (gf : Str → Option Addr) (W : WX) (m : Lo → M D) : TE := fun σ H Q => ∃ al be ρ st, SR K gf H al be st ∧ RS K gf H al be ρ σ ∧
  Post K gf be (wx gf W σ) H al (m ρ st) fun d _ H1 al1 => ∀ v, RV K gf H1 al1 be d v → Q v H1
def rdT (K : PySem.W.Frag) (gf : Str → Option Addr) (W : WX) (m : Lo → M Bool) : TT := fun σ H Q => ∃ al be ρ st, SR K gf H al be st ∧ RS K gf H al be ρ σ ∧
  Post K gf be (wx gf W σ) H al (m ρ st) fun b _ H1 _ => Q b H1
def rdA (K : PySem.W.Frag) (gf : Str → Option Addr) (W : WX) (m : Lo → M (List D)) : TA := fun σ H Q => ∃ al be ρ st, SR K gf H al be st ∧ RS K gf H al be ρ σ ∧
  Post K gf be (wx gf W σ) H al (m ρ st) fun ds _ H1 al1 => ∀ vs, RVs K gf H1 al1 be ds vs → Q vs H1
end

section
variable {X : Cx} {gf : Str → Option Addr} {W : WX}
theorem imE {e : Expr} {t t' : TE} (h : PE X e t) (i : ∀ σ H Q, t' σ H Q → t σ H Q) : PE X e t' := ⟨fun pins s σ H Q I q => h.run pins s σ H Q I (i σ H Q q)⟩
theorem imT {e : Expr} {t t' : TT} (h : PT X e t) (i : ∀ σ H Q, t' σ H Q → t σ H Q) : PT X e t' := ⟨fun pins s σ H Q I q => h.run pins s σ H Q I (i σ H Q q)⟩
theorem imW {e : Expr} {t t' : TT} (h : PW X e t) (i : ∀ σ H Q, t' σ H Q → t σ H Q) : PW X e t' := ⟨fun wh pins s σ H Q I q => h.run wh pins s σ H Q I (i σ H Q q)⟩
theorem imA {es : List Expr} {t t' : TA} (h : PA X es t) (i : ∀ σ H Q, t' σ H Q → t σ H Q) : PA X es t' := ⟨fun pos pins s σ H Q I q => h.run pos pins s σ H Q I (i σ H Q q)⟩
theorem imS {s : Stmt} {t t' : TS} (h : PS X s t) (i : ∀ D σ H, t' D σ H → t D σ H) : PS X s t' := ⟨fun pins s σ H D I q => h.run pins s σ H D I (i D σ H q)⟩
theorem imSs {s : List Stmt} {t t' : TS} (h : PSs X s t) (i : ∀ D σ H, t' D σ H → t D σ H) : PSs X s t' := ⟨fun pins s σ H D I q => h.run pins s σ H D I (i D σ H q)⟩

/-- an expression does what m says -/
def SE (X : Cx) (gf : Str → Option Addr) (W : WX) (e : Expr) (m : Lo → M D) : Prop := PE X e (rdE X.K gf W m)
def ST (X : Cx) (gf : Str → Option Addr) (W : WX) (e : Expr) (m : Lo → M Bool) : Prop := PT X e (rdT X.K gf W m)
def SA (X : Cx) (gf : Str → Option Addr) (W : WX) (es : List Expr) (m : Lo → M (List D)) : Prop := PA X es (rdA X.K gf W m)

/-! ### values -/
def mVar (i : Nat) : Lo → M D := fun ρ => M.look fun _ => (ρ[i]?).bind id
theorem s_var {i : Nat} {x : Str} {pos : Pos} (hN : X.N[i]? = some x) (hv : Vis X.env.scope x) (hd : (x == ("__debug__" : Str)) = false) (hcd : (x == ("__classdict__" : Str)) = false) : SE X gf W (.Name x pos) (mVar i) := by
  refine imE (pe_var (i := i) hN hv hd hcd) fun σ H Q ⟨al, be, ρ, st, S, L, p⟩ => ?_
  obtain ⟨d, e, q⟩ := p.look S
  obtain ⟨o, e1, e2⟩ := Option.bind_eq_some_iff.mp e
  cases e2
  obtain ⟨v, h1, h2⟩ := L.val i d e1
  exact ⟨v, h1, q v h2⟩
/-- a constant -/
def mC (d : D) : Lo → M D := fun _ => M.pure d
theorem s_const {e : Expr} {d : D} {v : V} (h : PE X e (tC v)) (r : ∀ H al be, RV X.K gf H al be d v) : SE X gf W e (mC d) := by
  refine imE h fun σ H Q ⟨al, be, ρ, st, S, L, p⟩ => ?_
  exact p.ok S v (r H al be)
theorem s_int {i : Int} {j pos} : SE X gf W (.Constant (.int i) j pos) (mC (.int i)) := s_const pe_int fun _ _ _ => .int i
theorem s_bl {b : Bool} {j pos} : SE X gf W (.Constant (.bool b) j pos) (mC (.bl b)) := s_const pe_bl fun _ _ _ => .bl b
theorem s_non {j pos} : SE X gf W (.Constant .none j pos) (mC .non) := s_const pe_non fun _ _ _ => .non
theorem s_str {x : Str} {j pos} (h : PyData.strOk x = true) (h' : x.length ≤ sizeLine) : SE X gf W (.Constant (.str x) j pos) (mC (.str x)) := s_const pe_str fun _ _ _ => .str h h'
theorem s_glob {x : Str} {d : D} {v : V} {u : Value} {pos : Pos} (hg : Gl X x) (hm : X.mg x = some u) (r : RelV v u) (hd : (x == ("__debug__" : Str)) = false) (rv : ∀ H al be, RV X.K gf H al be d v) : SE X gf W (.Name x pos) (mC d) :=
  s_const (pe_glob hg hm r hd) rv
/-- code that is never reached -/
theorem s_bad {e : Expr} : SE X gf W e (fun _ => M.stuck) := ⟨fun _ _ _ _ _ _ ⟨_, _, _, _, _, _, p⟩ => p.elim⟩
theorem st_bad {e : Expr} : ST X gf W e (fun _ => M.stuck) := ⟨fun _ _ _ _ _ _ ⟨_, _, _, _, _, _, p⟩ => p.elim⟩

/-! ### operators by values -/
/-- two values, the store as it is; a value -/
def OpS (X : Cx) (gf : Str → Option Addr) (f : Value → Value → Sem Value) (g : D → D → M D) : Prop :=
  OpR X f (fun x y H Q => ∃ al be st d e W, SR X.K gf H al be st ∧ RV X.K gf H al be d x ∧ RV X.K gf H al be e y ∧ Post X.K gf be W H al (g d e st) fun t _ H1 al1 => ∀ v, RV X.K gf H1 al1 be t v → Q v H1)
def mOp (g : D → D → M D) (ma mb : Lo → M D) : Lo → M D := fun ρ => M.bind (ma ρ) fun x => M.bind (mb ρ) fun y => g x y
theorem two_of {ma mb : Lo → M D} {g : D → D → M D} {σ : St} {H : Hp} {Q : VK} (h : rdE X.K gf W (mOp g ma mb) σ H Q) :
    rdE X.K gf W ma σ H fun x H1 => rdE X.K gf W mb σ H1 fun y H2 => ∃ al be st d e W, SR X.K gf H2 al be st ∧ RV X.K gf H2 al be d x ∧ RV X.K gf H2 al be e y ∧ Post X.K gf be W H2 al (g d e st) fun t _ H1 al1 => ∀ v, RV X.K gf H1 al1 be t v → Q v H1 := by
  obtain ⟨al, be, ρ, st, S, L, p⟩ := h
  refine ⟨al, be, ρ, st, S, L, p.bind.mono fun d st1 H1 al1 S1 e1 p1 v rv => ?_⟩
  refine ⟨al1, be, ρ, st1, S1, L.ext e1, p1.bind.mono fun e st2 H2 al2 S2 e2 p2 u ru => ?_⟩
  exact ⟨al2, be, st2, d, e, _, S2, rv.ext e2, ru, p2⟩
variable {a b c : Expr} {ma mb mc : Lo → M D} {pos : Pos}
theorem s_op {op : Operator} {g : D → D → M D} (ho : OpS X gf (binaryOp op) g) (ha : SE X gf W a ma) (hb : SE X gf W b mb) : SE X gf W (.BinOp a op b pos) (mOp g ma mb) :=
  imE (pe_op ho ha hb) fun _ _ _ h => two_of h
theorem s_cmp {op : CmpOp} {g : D → D → M D} (ho : OpS X gf (compareOp op) g) (ha : SE X gf W a ma) (hb : SE X gf W b mb) (hm : behindInMarks op b = false) : SE X gf W (.Compare a [op] [b] pos) (mOp g ma mb) :=
  imE (pe_cmpR ho ha hb hm) fun _ _ _ h => two_of h
/-- a value that is a truth -/
def asB : D → Option Bool
  | .bl b => some b
  | _ => none
def mB (m : Lo → M D) : Lo → M Bool := fun ρ => M.bind (m ρ) fun d => M.look fun _ => asB d
theorem RV.asB {K : PySem.W.Frag} {H : Hp} {al be : List Addr} {d : D} {v : V} {k : Bool} (r : RV K gf H al be d v) (h : TB.asB d = some k) : v = .bl k := by
  cases r <;> simp [TB.asB] at h
  subst h; rfl
theorem st_cmp {op : CmpOp} {g : D → D → M D} (ho : OpS X gf (compareOp op) g) (ha : SE X gf W a ma) (hb : SE X gf W b mb) (hm : behindInMarks op b = false) : ST X gf W (.Compare a [op] [b] pos) (mB (mOp g ma mb)) := by
  refine imT (pt_cmpR ho ha hb hm) fun σ H Q h => ?_
  obtain ⟨al, be, ρ, st, S, L, p⟩ := h
  refine two_of ⟨al, be, ρ, st, S, L, p.bind.mono fun d st1 H1 al1 S1 e1 p1 v rv => ?_⟩
  obtain ⟨k, e, q⟩ := p1.look S1
  exact ⟨k, rv.asB e, q⟩
/-- a < b < c -/
def mChain (g g' : D → D → M D) (ma mb mc : Lo → M D) : Lo → M D := fun ρ => M.bind (ma ρ) fun x => M.bind (mb ρ) fun y => M.bind (g x y) fun z => M.bind (M.look fun _ => asB z) fun k => if k then M.bind (mc ρ) fun w => g' y w else M.pure (.bl false)
theorem chain_of {g g' : D → D → M D} {σ : St} {H : Hp} {Q : VK} (h : rdE X.K gf W (mChain g g' ma mb mc) σ H Q) :
    tChain (fun x y H Q => ∃ al be st d e W, SR X.K gf H al be st ∧ RV X.K gf H al be d x ∧ RV X.K gf H al be e y ∧ Post X.K gf be W H al (g d e st) fun t _ H1 al1 => ∀ v, RV X.K gf H1 al1 be t v → Q v H1)
      (fun x y H Q => ∃ al be st d e W, SR X.K gf H al be st ∧ RV X.K gf H al be d x ∧ RV X.K gf H al be e y ∧ Post X.K gf be W H al (g' d e st) fun t _ H1 al1 => ∀ v, RV X.K gf H1 al1 be t v → Q v H1)
      (rdE X.K gf W ma) (rdE X.K gf W mb) (rdE X.K gf W mc) σ H Q := by
  obtain ⟨al, be, ρ, st, S, L, p⟩ := h
  refine ⟨al, be, ρ, st, S, L, p.bind.mono fun d st1 H1 al1 S1 e1 p1 v rv => ?_⟩
  refine ⟨al1, be, ρ, st1, S1, L.ext e1, p1.bind.mono fun e st2 H2 al2 S2 e2 p2 u ru => ?_⟩
  refine ⟨al2, be, st2, d, e, _, S2, rv.ext e2, ru, p2.bind.mono fun z st3 H3 al3 S3 e3 p3 zv rz => ?_⟩
  obtain ⟨k, ek, p3⟩ := p3.bind.look S3
  refine ⟨k, rz.asB ek, ?_⟩
  cases k with
  | true =>
    rw [if_pos rfl] at p3 ⊢
    refine ⟨al3, be, ρ, st3, S3, ((L.ext e1).ext e2).ext e3, p3.bind.mono fun w st4 H4 al4 S4 e4 p4 wv rw' => ?_⟩
    exact ⟨al4, be, st4, e, w, _, S4, (ru.ext e3).ext e4, rw', p4⟩
  | false =>
    rw [if_neg Bool.false_ne_true] at p3 ⊢
    exact p3.ok S3 _ (.bl false)
theorem s_chain {op op' : CmpOp} {g g' : D → D → M D} (ho : OpS X gf (compareOp op) g) (ho' : OpS X gf (compareOp op') g') (ha : SE X gf W a ma) (hb : SE X gf W b mb) (hc : SE X gf W c mc)
    (hm : lastMarks [op, op'] [b, c] = false) : SE X gf W (.Compare a [op, op'] [b, c] pos) (mChain g g' ma mb mc) :=
  imE (pe_chain ho ho' ha hb hc hm) fun _ _ _ h => chain_of h
theorem st_chain {op op' : CmpOp} {g g' : D → D → M D} (ho : OpS X gf (compareOp op) g) (ho' : OpS X gf (compareOp op') g') (ha : SE X gf W a ma) (hb : SE X gf W b mb) (hc : SE X gf W c mc)
    (hm : lastMarks [op, op'] [b, c] = false) : ST X gf W (.Compare a [op, op'] [b, c] pos) (mB (mChain g g' ma mb mc)) := by
  refine imT (pt_chain ho ho' ha hb hc hm) fun σ H Q h => ?_
  obtain ⟨al, be, ρ, st, S, L, p⟩ := h
  refine chain_of ⟨al, be, ρ, st, S, L, p.bind.mono fun d st1 H1 al1 S1 e1 p1 v rv => ?_⟩
  obtain ⟨k, e, q⟩ := p1.look S1
  exact ⟨k, rv.asB e, q⟩

/-! ### truth, and, or, not -/
def truth (st : Sto) : D → Option Bool
  | .non => some false
  | .bl b => some b
  | .int i => some (i != 0)
  | .str x => some (x.length != 0)
  | .tup l => some (!l.isEmpty)
  | .lst l => some (!l.isEmpty)
  | .ref n => match st[n]? with
    | some (.lst l) => some (!l.isEmpty)
    | some (.dct l) => some (!l.isEmpty)
    | _ => none
  | .fn _ => none
  | .scr l => some (!l.isEmpty)
theorem emp_len {α β : Type} {a : List α} {b : List β} (h : a.length = b.length) : a.isEmpty = b.isEmpty := by
  cases a <;> cases b <;> simp at h ⊢
theorem RV.truth {K : PySem.W.Frag} {H : Hp} {al be : List Addr} {st : Sto} {d : D} {v : V} {k : Bool} (S : SR K gf H al be st) (r : RV K gf H al be d v) (h : TB.truth st d = some k) : TruV K v H k := by
  cases r with
  | non => simp [TB.truth] at h; subst h; rfl
  | bl b => simp [TB.truth] at h; subst h; rfl
  | int i => simp [TB.truth] at h; subst h; rfl
  | @str x h1 h2 =>
    simp [TB.truth] at h; subst h
    refine ⟨h2, ?_⟩
    rw [Bool.eq_iff_iff]
    simp [bne_iff_ne]
  | tup h1 h2 _ => simp only [TB.truth, Option.some.injEq] at h; subst h; exact .inr (.inl ⟨_, h1, by rw [emp_len h2.length]⟩)
  | lst h1 h2 _ => simp only [TB.truth, Option.some.injEq] at h; subst h; exact .inl ⟨_, h1.sq, by rw [emp_len h2.length]⟩
  | @ref n a h1 =>
    obtain ⟨o, h2, ro⟩ := S.at' h1
    simp only [TB.truth, h2] at h
    cases o with
    | lst l => obtain ⟨vs, q, r, _⟩ := ro; simp only [Option.some.injEq] at h; subst h; exact .inl ⟨_, .of q, by rw [emp_len r.length]⟩
    | dct l => obtain ⟨vs, q, r, _⟩ := ro; simp only [Option.some.injEq] at h; subst h; exact .inr (.inr ⟨_, q, by rw [emp_len r.length]⟩)
    | ins c fs => cases h
  | fn _ => cases h
  | scr h1 _ => simp only [TB.truth, Option.some.injEq] at h; subst h; exact .inl ⟨_, h1.sq, by rw [emp_len (show (List.map V.int _).length = _ from List.length_map ..)]⟩
def mTru (m : Lo → M D) : Lo → M Bool := fun ρ => M.bind (m ρ) fun d => M.look fun st => truth st d
theorem st_tru (ha : SE X gf W a ma) (he : ∀ whole, isTrue a X.env whole = (do let v ← whole; standAt a.pos; holding [v] (truthy v))) : ST X gf W a (mTru ma) := by
  refine imT (pt_truth ha he) fun σ H Q h => ?_
  obtain ⟨al, be, ρ, st, S, L, p⟩ := h
  refine ⟨al, be, ρ, st, S, L, p.bind.mono fun d st1 H1 al1 S1 e1 p1 v rv => ?_⟩
  obtain ⟨k, e, q⟩ := p1.look S1
  exact ⟨k, rv.truth S1 e, q⟩
def mAnd (ma mb : Lo → M D) : Lo → M D := fun ρ => M.bind (ma ρ) fun d => M.bind (M.look fun st => truth st d) fun k => if k then mb ρ else M.pure d
def mOr (ma mb : Lo → M D) : Lo → M D := fun ρ => M.bind (ma ρ) fun d => M.bind (M.look fun st => truth st d) fun k => if k then M.pure d else mb ρ
def mNot (m : Lo → M D) : Lo → M D := fun ρ => M.bind (m ρ) fun d => M.bind (M.look fun st => truth st d) fun k => M.pure (.bl (!k))
variable {rest : List Expr}
theorem s_and (ha : SE X gf W a ma) (hb : SE X gf W (.BoolOp .And (b :: rest) pos) mb) : SE X gf W (.BoolOp .And (a :: b :: rest) pos) (mAnd ma mb) := by
  refine imE (pe_andT ha hb) fun σ H Q h => ?_
  obtain ⟨al, be, ρ, st, S, L, p⟩ := h
  refine ⟨al, be, ρ, st, S, L, p.bind.mono fun d st1 H1 al1 S1 e1 p1 v rv => ?_⟩
  obtain ⟨k, e, q⟩ := p1.bind.look S1
  refine ⟨k, rv.truth S1 e, ?_⟩
  cases k with
  | true => rw [if_pos rfl] at q ⊢; exact ⟨al1, be, ρ, st1, S1, L.ext e1, q⟩
  | false => rw [if_neg Bool.false_ne_true] at q ⊢; exact q.ok S1 v rv
theorem s_or (ha : SE X gf W a ma) (hb : SE X gf W (.BoolOp .Or (b :: rest) pos) mb) : SE X gf W (.BoolOp .Or (a :: b :: rest) pos) (mOr ma mb) := by
  refine imE (pe_orT ha hb) fun σ H Q h => ?_
  obtain ⟨al, be, ρ, st, S, L, p⟩ := h
  refine ⟨al, be, ρ, st, S, L, p.bind.mono fun d st1 H1 al1 S1 e1 p1 v rv => ?_⟩
  obtain ⟨k, e, q⟩ := p1.bind.look S1
  refine ⟨k, rv.truth S1 e, ?_⟩
  cases k with
  | false => rw [if_neg Bool.false_ne_true] at q ⊢; exact ⟨al1, be, ρ, st1, S1, L.ext e1, q⟩
  | true => rw [if_pos rfl] at q ⊢; exact q.ok S1 v rv
theorem s_one {op} (ha : SE X gf W a ma) : SE X gf W (.BoolOp op [a] pos) ma := pe_one ha
theorem s_not (ha : SE X gf W a ma) : SE X gf W (.UnaryOp .Not a pos) (mNot ma) := by
  refine imE (pe_notT ha) fun σ H Q h => ?_
  obtain ⟨al, be, ρ, st, S, L, p⟩ := h
  refine ⟨al, be, ρ, st, S, L, p.bind.mono fun d st1 H1 al1 S1 e1 p1 v rv => ?_⟩
  obtain ⟨k, e, q⟩ := p1.bind.look S1
  exact ⟨k, rv.truth S1 e, q.ok S1 _ (.bl _)⟩
/-- tests -/
def SW (X : Cx) (gf : Str → Option Addr) (W : WX) (e : Expr) (m : Lo → M Bool) : Prop := PW X e (rdT X.K gf W m)
variable {ta tb : Lo → M Bool}
def tAndM (ta tb : Lo → M Bool) : Lo → M Bool := fun ρ => M.bind (ta ρ) fun k => if k then tb ρ else M.pure false
def tOrM (ta tb : Lo → M Bool) : Lo → M Bool := fun ρ => M.bind (ta ρ) fun k => if k then M.pure true else tb ρ
def tNotM (ta : Lo → M Bool) : Lo → M Bool := fun ρ => M.bind (ta ρ) fun k => M.pure (!k)
theorem sw_and1 (ha : ST X gf W a ta) : SW X gf W (.BoolOp .And [a] pos) ta := pw_and1 ha
theorem sw_or1 (ha : ST X gf W a ta) : SW X gf W (.BoolOp .Or [a] pos) ta := pw_or1 ha
theorem sw_and (ha : ST X gf W a ta) (hb : SW X gf W (.BoolOp .And (b :: rest) pos) tb) : SW X gf W (.BoolOp .And (a :: b :: rest) pos) (tAndM ta tb) := by
  refine imW (pw_and ha hb) fun σ H Q h => ?_
  obtain ⟨al, be, ρ, st, S, L, p⟩ := h
  refine ⟨al, be, ρ, st, S, L, p.bind.mono fun k st1 H1 al1 S1 e1 q => ?_⟩
  cases k with
  | true => rw [if_pos rfl] at q ⊢; exact ⟨al1, be, ρ, st1, S1, L.ext e1, q⟩
  | false => rw [if_neg Bool.false_ne_true] at q ⊢; exact q.ok S1
theorem sw_or (ha : ST X gf W a ta) (hb : SW X gf W (.BoolOp .Or (b :: rest) pos) tb) : SW X gf W (.BoolOp .Or (a :: b :: rest) pos) (tOrM ta tb) := by
  refine imW (pw_or ha hb) fun σ H Q h => ?_
  obtain ⟨al, be, ρ, st, S, L, p⟩ := h
  refine ⟨al, be, ρ, st, S, L, p.bind.mono fun k st1 H1 al1 S1 e1 q => ?_⟩
  cases k with
  | true => rw [if_pos rfl] at q ⊢; exact q.ok S1
  | false => rw [if_neg Bool.false_ne_true] at q ⊢; exact ⟨al1, be, ρ, st1, S1, L.ext e1, q⟩
theorem st_not (ha : ST X gf W a ta) : ST X gf W (.UnaryOp .Not a pos) (tNotM ta) := by
  refine imT (pt_not ha) fun σ H Q h => ?_
  obtain ⟨al, be, ρ, st, S, L, p⟩ := h
  exact ⟨al, be, ρ, st, S, L, p.bind.mono fun k st1 H1 al1 S1 e1 q => q.ok S1⟩
def mIte (tc : Lo → M Bool) (ma mb : Lo → M D) : Lo → M D := fun ρ => M.bind (tc ρ) fun k => if k then ma ρ else mb ρ
theorem s_ite {tc : Lo → M Bool} (hc : ST X gf W c tc) (ha : SE X gf W a ma) (hb : SE X gf W b mb) : SE X gf W (.IfExp c a b pos) (mIte tc ma mb) := by
  refine imE (pe_ifExp hc ha hb) fun σ H Q h => ?_
  obtain ⟨al, be, ρ, st, S, L, p⟩ := h
  refine ⟨al, be, ρ, st, S, L, p.bind.mono fun k st1 H1 al1 S1 e1 q => ?_⟩
  cases k with
  | true => rw [if_pos rfl] at q ⊢; exact ⟨al1, be, ρ, st1, S1, L.ext e1, q⟩
  | false => rw [if_neg Bool.false_ne_true] at q ⊢; exact ⟨al1, be, ρ, st1, S1, L.ext e1, q⟩

/-! ### argument lists, displays -/
def aNil : Lo → M (List D) := fun _ => M.pure []
def aCons (m : Lo → M D) (r : Lo → M (List D)) : Lo → M (List D) := fun ρ => M.bind (m ρ) fun d => M.bind (r ρ) fun l => M.pure (d :: l)
variable {es : List Expr} {mr : Lo → M (List D)}
theorem sa_nil : SA X gf W [] aNil := imA pa_nil fun σ H Q ⟨al, be, ρ, st, S, L, p⟩ => p.ok S [] .nil
theorem sa_cons (ha : SE X gf W a ma) (hr : SA X gf W es mr) (hs : starEach (a :: es) X.env = (false, eval a X.env) :: starEach es X.env) : SA X gf W (a :: es) (aCons ma mr) := by
  refine imA (pa_cons ha hr hs) fun σ H Q h => ?_
  obtain ⟨al, be, ρ, st, S, L, p⟩ := h
  refine ⟨al, be, ρ, st, S, L, p.bind.mono fun d st1 H1 al1 S1 e1 p1 v rv => ?_⟩
  refine ⟨al1, be, ρ, st1, S1, L.ext e1, p1.bind.mono fun l st2 H2 al2 S2 e2 p2 vs rvs => ?_⟩
  exact p2.ok S2 (v :: vs) (.cons (rv.ext e2) rvs)
/-- a tuple is made -/
def mkT (l : List D) : M D := fun st => if l.length ≤ sizeLine then some (.ok (.tup l), st) else none
theorem mkT_ok {K : PySem.W.Frag} {H : Hp} {al be : List Addr} {st : Sto} {ds : List D} {vs : List V} {W : Str → Hp → Prop} {Q : VK} {p : Addr} (S : SR K gf H al be st) (r : RVs K gf H al be ds vs) (hp : H p = none)
    (h : Post K gf be W H al (mkT ds st) fun t _ H1 al1 => ∀ v, RV K gf H1 al1 be t v → Q v H1) : Q (.ref p) (upd H p (.tup vs)) := by
  unfold mkT at h
  split at h
  · rename_i z
    exact h _ _ (S.new hp) (Ext.new hp S) _ (.tup (.of upd_same) (r.ext (Ext.new hp S)) z)
  · exact h.elim
theorem mkT_len {K : PySem.W.Frag} {H : Hp} {al be : List Addr} {st : Sto} {ds : List D} {W : Str → Hp → Prop} {k : D → Sto → Hp → List Addr → Prop} (h : Post K gf be W H al (mkT ds st) k) : ds.length ≤ sizeLine := by
  unfold mkT at h
  split at h
  · assumption
  · exact h.elim
/-- a list is made: one that may change, or one that stays -/
def mkL (m : Bool) (l : List D) : M D := fun st => if l.length ≤ sizeLine then (if m then some (.ok (.ref st.length), st ++ [.lst l]) else some (.ok (.lst l), st)) else none
theorem mkL_ok {K : PySem.W.Frag} {H : Hp} {al be : List Addr} {st : Sto} {m : Bool} {ds : List D} {vs : List V} {W : Str → Hp → Prop} {Q : VK} {p : Addr} (S : SR K gf H al be st) (r : RVs K gf H al be ds vs) (hp : H p = none)
    (h : Post K gf be W H al (mkL m ds st) fun t _ H1 al1 => ∀ v, RV K gf H1 al1 be t v → Q v H1) : Q (.ref p) (upd H p (.lst vs)) := by
  unfold mkL at h
  split at h
  · rename_i z
    cases m with
    | true =>
      have e := Ext.push (o := .lst vs) hp S
      refine h _ _ (S.push (mo := .lst ds) hp ⟨vs, upd_same, r.ext e, z⟩) e _ (.ref ?_)
      rw [← S.len, List.getElem?_append_right (Nat.le_refl _)]
      simp
    | false =>
      have npal : p ∉ al := fun q => by
        obtain ⟨ob, ro⟩ := S.mem q
        have := ro.mut
        rw [hp] at this
        exact this
      have npbe : p ∉ be := fun q => by
        obtain ⟨vs, e⟩ := S.res p q
        rw [hp] at e
        cases e
      exact h _ _ (S.new hp) (Ext.new hp S) _ (.lst ⟨upd_same, npal, npbe⟩ (r.ext (Ext.new hp S)) z)
  · exact h.elim
theorem mkL_len {K : PySem.W.Frag} {H : Hp} {al be : List Addr} {st : Sto} {m : Bool} {ds : List D} {W : Str → Hp → Prop} {k : D → Sto → Hp → List Addr → Prop} (h : Post K gf be W H al (mkL m ds st) k) : ds.length ≤ sizeLine := by
  unfold mkL at h
  split at h
  · assumption
  · exact h.elim
def mTup (mr : Lo → M (List D)) : Lo → M D := fun ρ => M.bind (mr ρ) mkT
def mLst (m : Bool) (mr : Lo → M (List D)) : Lo → M D := fun ρ => M.bind (mr ρ) (mkL m)
theorem s_tup {k : Nat} (h : SA X gf W es mr) : SE X gf W (.Tuple es k pos) (mTup mr) := by
  refine imE (pe_tup h) fun σ H Q h => ?_
  obtain ⟨al, be, ρ, st, S, L, p⟩ := h
  refine ⟨al, be, ρ, st, S, L, p.bind.mono fun ds st1 H1 al1 S1 e1 p1 vs rvs => ⟨?_, fun q hq => mkT_ok S1 rvs hq p1⟩⟩
  rw [← rvs.length]
  exact mkT_len p1
theorem s_lst {m : Bool} (h : SA X gf W es mr) : SE X gf W (.List es pos) (mLst m mr) := by
  refine imE (pe_lst h) fun σ H Q h => ?_
  obtain ⟨al, be, ρ, st, S, L, p⟩ := h
  refine ⟨al, be, ρ, st, S, L, p.bind.mono fun ds st1 H1 al1 S1 e1 p1 vs rvs => ⟨?_, fun q hq => mkL_ok S1 rvs hq p1⟩⟩
  rw [← rvs.length]
  exact mkL_len p1
end
end TB
set_option Elab.async false
set_option linter.all false
set_option maxRecDepth 100000
set_option maxHeartbeats 4000000
/-! TB2: operators by values -/
namespace TB
open PySem PySem.Spec L2

/-! ### texts -/
theorem strOk_app {x y : Str} (h : PyData.strOk x = true) (h' : PyData.strOk y = true) : PyData.strOk (x ++ y) = true := by
  unfold PyData.strOk at *
  show (x.cps ++ y.cps).all _ = true
  rw [Array.all_append, h, h']; rfl
theorem len_app (x y : Str) : (x ++ y).length = x.length + y.length := by
  show (x.cps ++ y.cps).size = _
  rw [Array.size_append]; rfl

/-! ### lists that are read -/
def lstOf (st : Sto) : D → Option (List D)
  | .lst l => some l
  | .ref n => match st[n]? with
    | some (.lst l) => some l
    | _ => none
  | _ => none
section
variable {X : Cx} {gf : Str → Option Addr} {K : PySem.W.Frag} {H : Hp} {al be : List Addr} {st : Sto} {d e : D} {v u : V} {l : List D}
theorem RV.lstOf (S : SR K gf H al be st) (r : RV K gf H al be d v) (h : TB.lstOf st d = some l) : ∃ a vs, v = .ref a ∧ H a = some (.lst vs) ∧ RVs K gf H al be l vs ∧ l.length ≤ sizeLine := by
  cases r with
  | lst h1 h2 z => simp only [TB.lstOf, Option.some.injEq] at h; subst h; exact ⟨_, _, rfl, h1.1, h2, z⟩
  | @ref n a h1 =>
    obtain ⟨o, h2, ro⟩ := S.at' h1
    simp only [TB.lstOf, h2] at h
    cases o with
    | lst l' => obtain ⟨vs, q, r, z⟩ := ro; simp only [Option.some.injEq] at h; subst h; exact ⟨_, _, rfl, q, r, z⟩
    | dct l => cases h
    | ins c fs => cases h
  | _ => simp [TB.lstOf] at h
theorem RV.tup_inv (r : RV K gf H al be (.tup l) v) : ∃ a vs, v = .ref a ∧ SqT K H a vs ∧ RVs K gf H al be l vs ∧ l.length ≤ sizeLine := by
  cases r with
  | tup h1 h2 z => exact ⟨_, _, rfl, h1, h2, z⟩
theorem RV.int_inv {i : Int} (r : RV K gf H al be (.int i) v) : v = .int i := by cases r; rfl
theorem RV.bl_inv {i : Bool} (r : RV K gf H al be (.bl i) v) : v = .bl i := by cases r; rfl
theorem RV.non_inv (r : RV K gf H al be .non v) : v = .non := by cases r; rfl
theorem RV.str_inv {x : Str} (r : RV K gf H al be (.str x) v) : v = .str x ∧ PyData.strOk x = true ∧ x.length ≤ sizeLine := by
  cases r with
  | str h h' => exact ⟨rfl, h, h'⟩

/-! ### arithmetic -/
def opAdd (m : Bool) : D → D → M D
  | .int i, .int j => M.pure (.int (i + j))
  | .str x, .str y => fun st => if x.length + y.length ≤ sizeLine then some (.ok (.str (x ++ y)), st) else none
  | .tup a, .tup b => mkT (a ++ b)
  | d, e => fun st => match lstOf st d, lstOf st e with
    | some a, some b => mkL m (a ++ b) st
    | _, _ => none
theorem list_add {m : Bool} {W : Str → Hp → Prop} {Q : VK} {pins : List (Addr × Obj)} {s : Shared} {σ : St} {vv uu : Value} (S : SR X.K gf H al be st) (rd : RV X.K gf H al be d v) (re : RV X.K gf H al be e u) (I : Inv X pins σ H s) (rx : RelV v vv) (ry : RelV u uu)
    (p : Post X.K gf be W H al (match TB.lstOf st d, TB.lstOf st e with
    | some a, some b => mkL m (a ++ b) st
    | _, _ => none) fun t _ H1 al1 => ∀ v, RV X.K gf H1 al1 be t v → Q v H1) : wpAny (model X.prog X.w) X.A (binaryOp .Add vv uu) (EP X pins σ Q) X.xe s := by
  match h1 : TB.lstOf st d, h2 : TB.lstOf st e with
  | none, _ => rw [h1] at p; exact p.elim
  | some a, none => rw [h1, h2] at p; exact p.elim
  | some l1, some l2 =>
    rw [h1, h2] at p
    obtain ⟨a, vs, rfl, q1, r1, z1⟩ := rd.lstOf S h1
    obtain ⟨b, ws, rfl, q2, r2, z2⟩ := re.lstOf S h2
    have hl := mkL_len p
    rw [List.length_append, r1.length, r2.length] at hl
    exact op_cat pins s σ H _ _ vv uu Q I rx ry ⟨a, b, vs, ws, rfl, rfl, q1, q2, hl, fun q hq => mkL_ok S (r1.append r2) hq p⟩
theorem os_add {m : Bool} : OpS X gf (binaryOp .Add) (opAdd m) := by
  intro pins s σ H x y v u Q I rx ry h
  obtain ⟨al, be, st, d, e, W, S, rd, re, p⟩ := h
  unfold opAdd at p
  split at p
  · cases rd.int_inv; cases re.int_inv
    exact op_add pins s σ H _ _ v u Q I rx ry ⟨_, _, rfl, rfl, p.ok S _ (.int _)⟩
  · obtain ⟨rfl, h1, h2⟩ := rd.str_inv
    obtain ⟨rfl, h3, h4⟩ := re.str_inv
    split at p
    · rename_i z
      exact op_add_str pins s σ H _ _ v u Q I rx ry ⟨_, _, rfl, rfl, z, p.ok S _ (.str (strOk_app h1 h3) (by rw [len_app]; exact z))⟩
    · exact p.elim
  · obtain ⟨a, vs, rfl, q1, r1, z1⟩ := rd.tup_inv
    obtain ⟨b, ws, rfl, q2, r2, z2⟩ := re.tup_inv
    have hl := mkT_len p
    rw [List.length_append] at hl
    refine op_catA pins s σ H _ _ v u Q I rx ry ⟨a, b, vs, ws, rfl, rfl, q1, q2, by rw [← r1.length, ← r2.length]; exact hl, fun z => ?_, fun _ z => ?_, fun _ _ q hq => mkT_ok S (r1.append r2) hq p⟩
    · subst z
      cases r1
      unfold mkT at p
      rw [List.nil_append, if_pos z2] at p
      exact p.ok S _ re
    · subst z
      cases r2
      unfold mkT at p
      rw [List.append_nil, if_pos z1] at p
      exact p.ok S _ rd
  · exact list_add S rd re I rx ry p
/-- two ints -/
def opI (f : Int → Int → Option Int) : D → D → M D
  | .int i, .int j => M.look fun _ => (f i j).map .int
  | _, _ => M.stuck
theorem os_I {op : Operator} {f : Int → Int → Option Int} {C : Int → Int → Prop} {g : Int → Int → Int} (h : OpR X (binaryOp op) (rI C fun i j => .int (g i j))) (hf : ∀ i j k, f i j = some k → C i j ∧ k = g i j) : OpS X gf (binaryOp op) (opI f) := by
  intro pins s σ H x y v u Q I rx ry q
  obtain ⟨al, be, st, d, e, W, S, rd, re, p⟩ := q
  unfold opI at p
  split at p
  · cases rd.int_inv; cases re.int_inv
    obtain ⟨t, e1, q⟩ := p.look S
    obtain ⟨k, e2, rfl⟩ := Option.map_eq_some_iff.mp e1
    obtain ⟨c, rfl⟩ := hf _ _ _ e2
    exact h pins s σ H _ _ v u Q I rx ry ⟨_, _, rfl, rfl, c, q _ (.int _)⟩
  · exact p.elim
def fSub (i j : Int) : Option Int := some (i - j)
theorem os_sub : OpS X gf (binaryOp .Sub) (opI fSub) := os_I (C := fun _ _ => True) (g := fun i j => i - j) (fun pins s σ H x y v u Q I rx ry ⟨i, j, e1, e2, _, q⟩ => op_sub pins s σ H x y v u Q I rx ry ⟨i, j, e1, e2, q⟩) fun i j k h => by
  simp only [fSub, Option.some.injEq] at h; exact ⟨trivial, h.symm⟩
def fMod (i j : Int) : Option Int := if 0 < j then some (i % j) else none
theorem os_mod : OpS X gf (binaryOp .Mod) (opI fMod) := os_I op_mod fun i j k h => by
  unfold fMod at h; split at h
  · cases h; exact ⟨by assumption, rfl⟩
  · cases h
def fDiv (i j : Int) : Option Int := if 0 < j ∧ j < 1073741824 then some (i / j) else none
theorem os_div : OpS X gf (binaryOp .FloorDiv) (opI fDiv) := os_I op_fdiv fun i j k h => by
  unfold fDiv at h; split at h
  · cases h; exact ⟨by assumption, rfl⟩
  · cases h

/-! ### order -/
def opC (f : Int → Int → Bool) (g : List Nat → List Nat → Bool) : D → D → M D
  | .int i, .int j => M.pure (.bl (f i j))
  | .str i, .str j => M.pure (.bl (g i.cps.toList j.cps.toList))
  | _, _ => M.stuck
theorem os_C {op : CmpOp} {f : Int → Int → Bool} {g : List Nat → List Nat → Bool} (h : OpR X (compareOp op) (rI0 fun i j => .bl (f i j))) (h' : OpR X (compareOp op) (fun x y H Q => ∃ i j, x = .str i ∧ y = .str j ∧ Q (.bl (g i.cps.toList j.cps.toList)) H)) : OpS X gf (compareOp op) (opC f g) := by
  intro pins s σ H x y v u Q I rx ry q
  obtain ⟨al, be, st, d, e, W, S, rd, re, p⟩ := q
  unfold opC at p
  split at p
  · cases rd.int_inv; cases re.int_inv
    exact h pins s σ H _ _ v u Q I rx ry ⟨_, _, rfl, rfl, p.ok S _ (.bl _)⟩
  · obtain ⟨rfl, _⟩ := rd.str_inv
    obtain ⟨rfl, _⟩ := re.str_inv
    exact h' pins s σ H _ _ v u Q I rx ry ⟨_, _, rfl, rfl, p.ok S _ (.bl _)⟩
  · exact p.elim
def opLt := opC (fun i j => decide (i < j)) (fun i j => decide (i < j))
def opLe := opC (fun i j => decide (i ≤ j)) (fun i j => !decide (j < i))
def opGt := opC (fun i j => decide (j < i)) (fun i j => decide (j < i))
def opGe := opC (fun i j => decide (j ≤ i)) (fun i j => !decide (i < j))
theorem os_lt : OpS X gf (compareOp .Lt) opLt := os_C op_lt op_lt_str
theorem os_le : OpS X gf (compareOp .LtE) opLe := os_C op_le op_le_str
theorem os_gt : OpS X gf (compareOp .Gt) opGt := os_C op_gt op_gt_str
theorem os_ge : OpS X gf (compareOp .GtE) opGe := os_C op_ge op_ge_str

/-! ### equality -/
/-- a value as data, a list of the store too -/
def pyT (st : Sto) : D → Option PyData
  | .ref n => match st[n]? with
    | some (.lst l) => (D.pys l).map .list
    | _ => none
  | d => d.py
theorem RV.pyT (S : SR K gf H al be st) (r : RV K gf H al be d v) {p : PyData} (h : TB.pyT st d = some p) : Dp K H v p ∧ p.canLay0 = true := by
  cases r with
  | @ref n a h1 =>
    obtain ⟨o, h2, ro⟩ := S.at' h1
    simp only [TB.pyT, h2] at h
    cases o with
    | lst l' =>
      obtain ⟨vs, q, r, z⟩ := ro
      simp only [Option.map_eq_some_iff] at h
      obtain ⟨ps, e1, rfl⟩ := h
      obtain ⟨q1, q2⟩ := r.dp e1
      exact ⟨.lst (.of q) q1, by simpa only [PyData.canLay0] using q2⟩
    | dct l => cases h
    | ins c fs => cases h
  | non => exact RV.dp (gf := gf) (al := al) (be := be) .non h
  | bl b => exact RV.dp (gf := gf) (al := al) (be := be) (.bl b) h
  | int i => exact RV.dp (gf := gf) (al := al) (be := be) (.int i) h
  | str h1 h2 => exact RV.dp (gf := gf) (al := al) (be := be) (.str h1 h2) h
  | tup h1 h2 z => exact RV.dp (.tup h1 h2 z) h
  | lst h1 h2 z => exact RV.dp (.lst h1 h2 z) h
  | fn h1 => cases h
  | scr h1 z => cases h
def eqT (st : Sto) (d e : D) : Option Bool := match pyT st d, pyT st e with
  | some a, some b => if min a.depth b.depth ≤ 64 then some (a.eqv b) else none
  | _, _ => none
theorem eqT_of {b : Bool} (h : eqT st d e = some b) : ∃ p q, pyT st d = some p ∧ pyT st e = some q ∧ min p.depth q.depth ≤ 64 ∧ b = p.eqv q := by
  unfold eqT at h
  split at h
  · rename_i p q h1 h2
    split at h
    · cases h; exact ⟨p, q, h1, h2, by assumption, rfl⟩
    · cases h
  · cases h
def opEq : D → D → M D := fun d e => M.look fun st => (eqT st d e).map .bl
def opNe : D → D → M D := fun d e => M.look fun st => (eqT st d e).map fun b => .bl (!b)
theorem os_eq (hu : X.A.units + 65 < cLine) : OpS X gf (compareOp .Eq) opEq := by
  intro pins s σ H x y v u Q I rx ry q
  obtain ⟨al, be, st, d, e, W, S, rd, re, p⟩ := q
  obtain ⟨t, e1, q⟩ := p.look S
  obtain ⟨b, e2, rfl⟩ := Option.map_eq_some_iff.mp e1
  obtain ⟨pd, pe, h1, h2, h3, rfl⟩ := eqT_of e2
  obtain ⟨d1, c1⟩ := rd.pyT S h1
  obtain ⟨d2, c2⟩ := re.pyT S h2
  obtain ⟨as, r1⟩ := Dp.reads I pd x v d1 rx
  obtain ⟨bs, r2⟩ := Dp.reads I pe y u d2 ry
  exact SeqAt.compareEq_reads r1 r2 c1 c2 (by omega) ⟨.bl _, H, I, rfl, q _ (.bl _)⟩
theorem os_ne (hu : X.A.units + 65 < cLine) : OpS X gf (compareOp .NotEq) opNe := by
  intro pins s σ H x y v u Q I rx ry q
  obtain ⟨al, be, st, d, e, W, S, rd, re, p⟩ := q
  obtain ⟨t, e1, q⟩ := p.look S
  obtain ⟨b, e2, rfl⟩ := Option.map_eq_some_iff.mp e1
  obtain ⟨pd, pe, h1, h2, h3, rfl⟩ := eqT_of e2
  obtain ⟨d1, c1⟩ := rd.pyT S h1
  obtain ⟨d2, c2⟩ := re.pyT S h2
  obtain ⟨as, r1⟩ := Dp.reads I pd x v d1 rx
  obtain ⟨bs, r2⟩ := Dp.reads I pe y u d2 ry
  exact SeqAt.compareNe_reads r1 r2 c1 c2 (by omega) ⟨.bl _, H, I, rfl, q _ (.bl _)⟩

/-! ### tables by keys -/
def keyOf : D → Option Key
  | .int i => some (.inl i)
  | .str x => some (.inr x)
  | _ => none
def valG {κ τ : Type} [DecidableEq κ] (kvs : List (κ × τ)) (k : κ) : Option τ := (kvs.find? fun kv => decide (kv.1 = k)).map (·.2)
def putG {κ τ : Type} [DecidableEq κ] (kvs : List (κ × τ)) (k : κ) (v : τ) : List (κ × τ) :=
  if (kvs.any fun kv => decide (kv.1 = k)) = true then kvs.map (fun kv => if kv.1 = k then (kv.1, v) else kv) else kvs ++ [(k, v)]
def dropG {κ τ : Type} [DecidableEq κ] (kvs : List (κ × τ)) (k : κ) : List (κ × τ) := kvs.filter fun kv => decide (kv.1 ≠ k)
theorem RV.key {k : Key} (r : RV K gf H al be d v) (h : keyOf d = some k) : v = kV k := by
  cases r <;> simp [keyOf] at h <;> subst h <;> rfl
theorem RV.ofKey {k : Key} (h : ∀ x, k = .inr x → PyData.strOk x = true ∧ x.length ≤ sizeLine) : RV K gf H al be (match k with | .inl i => .int i | .inr x => .str x) (kV k) := by
  cases k with
  | inl i => exact .int i
  | inr x => exact .str (h x rfl).1 (h x rfl).2
theorem RPs.val {κ : Type} [DecidableEq κ] {ks : κ} : ∀ {kvs : List (κ × D)} {ws : List (κ × V)}, RPs K gf H al be kvs ws → (valG kvs ks = none ∧ valV ws ks = none) ∨ ∃ d v, valG kvs ks = some d ∧ valV ws ks = some v ∧ RV K gf H al be d v
  | _, _, .nil => .inl ⟨rfl, rfl⟩
  | _, _, .cons (k := k) h hs => by
    by_cases e : k = ks
    · subst e
      exact .inr ⟨_, _, by simp [valG], by simp [valV], h⟩
    · have h1 := RPs.val (ks := ks) hs
      simp only [valG, valV, List.find?_cons, e, decide_false] at h1 ⊢
      exact h1
theorem RPs.any {κ : Type} [DecidableEq κ] {k : κ} : ∀ {kvs : List (κ × D)} {ws : List (κ × V)}, RPs K gf H al be kvs ws → (kvs.any fun kv => decide (kv.1 = k)) = (ws.any fun kv => decide (kv.1 = k))
  | _, _, .nil => rfl
  | _, _, .cons h hs => by rw [List.any_cons, List.any_cons, RPs.any hs]
theorem RPs.repl {κ : Type} [DecidableEq κ] {k : κ} (r : RV K gf H al be d v) : ∀ {kvs : List (κ × D)} {ws : List (κ × V)}, RPs K gf H al be kvs ws → RPs K gf H al be (kvs.map (fun kv => if kv.1 = k then (kv.1, d) else kv)) (ws.map (fun kv => if kv.1 = k then (kv.1, v) else kv))
  | _, _, .nil => .nil
  | _, _, .cons (k := j) h hs => by
    rw [List.map_cons, List.map_cons]
    by_cases e : j = k
    · simp only [e, if_true]; exact .cons r (RPs.repl r hs)
    · simp only [e, if_false]; exact .cons h (RPs.repl r hs)
theorem RPs.append {κ : Type} : ∀ {a b : List (κ × D)} {c e : List (κ × V)}, RPs K gf H al be a c → RPs K gf H al be b e → RPs K gf H al be (a ++ b) (c ++ e)
  | _, _, _, _, .nil, h => h
  | _, _, _, _, .cons h hs, k => .cons h (RPs.append hs k)
theorem RPs.put {κ : Type} [DecidableEq κ] {k : κ} (r : RV K gf H al be d v) {kvs : List (κ × D)} {ws : List (κ × V)} (h : RPs K gf H al be kvs ws) : RPs K gf H al be (putG kvs k d) (putK ws k v) := by
  unfold putG putK
  rw [h.any]
  split
  · exact h.repl r
  · exact h.append (.cons r .nil)
theorem RPs.drop {κ : Type} [DecidableEq κ] {k : κ} : ∀ {kvs : List (κ × D)} {ws : List (κ × V)}, RPs K gf H al be kvs ws → RPs K gf H al be (dropG kvs k) (dropK ws k)
  | _, _, .nil => .nil
  | _, _, .cons (k := j) h hs => by
    unfold dropG dropK
    rw [List.filter_cons, List.filter_cons]
    by_cases e : j = k
    · simp only [e, ne_eq, not_true, decide_false]; exact RPs.drop hs
    · simp only [e, ne_eq, not_false_iff, decide_true, if_true]; exact .cons h (RPs.drop hs)

/-! ### in -/
def inL (d : D) (l : List D) : Option Bool := match d.py, D.pys l with
  | some p, some ps => if min (PyData.depthAll ps) p.depth ≤ 64 then some (ps.any fun z => z.eqv p) else none
  | _, _ => none
def inT (st : Sto) (d : D) : D → Option Bool
  | .str j => (match d with
    | .str i => some (!(Builtin.Str.occurrences j i 0 j.length 1).isEmpty)
    | _ => none)
  | .tup l => inL d l
  | .lst l => inL d l
  | .ref n => (match st[n]? with
    | some (.dct kvs) => (keyOf d).map fun k => (valG kvs k).isSome
    | some (.lst l) => inL d l
    | _ => none)
  | _ => none
def opIn : D → D → M D := fun d e => M.look fun st => (inT st d e).map .bl
def opNotIn : D → D → M D := fun d e => M.look fun st => (inT st d e).map fun b => .bl (!b)
theorem inL_of {b : Bool} (h : inL d l = some b) : ∃ p ps, d.py = some p ∧ D.pys l = some ps ∧ min (PyData.depthAll ps) p.depth ≤ 64 ∧ b = ps.any fun z => z.eqv p := by
  unfold inL at h
  split at h
  · rename_i p q h1 h2
    split at h
    · cases h; exact ⟨p, q, h1, h2, by assumption, rfl⟩
    · cases h
  · cases h
theorem in_list (hu : X.A.units + 66 < cLine) {pins : List (Addr × Obj)} {s : Shared} {σ : St} {vv : Value} {a : Addr} {vs : List V} {b : Bool} (I : Inv X pins σ H s) (rx : RelV v vv) (rd : RV X.K gf H al be d v) (hs : SqL X.K H a vs) (rs : RVs X.K gf H al be l vs) (h : inL d l = some b) :
    ∃ p ps as bs, d.py = some p ∧ D.pys l = some ps ∧ b = (ps.any fun z => z.eqv p) ∧ Reads s.heap (.ref a) (.list ps) bs ∧ Reads s.heap vv p as ∧ PyData.canLayAll0 ps = true ∧ p.canLay0 = true ∧ X.A.units + 1 + min (PyData.depthAll ps) p.depth < cLine := by
  obtain ⟨p, ps, h1, h2, h3, h4⟩ := inL_of h
  obtain ⟨d1, c1⟩ := rd.dp h1
  obtain ⟨d2, c2⟩ := rs.dp h2
  obtain ⟨as, r1⟩ := Dp.reads I p v vv d1 rx
  obtain ⟨bs, r2⟩ := Dp.reads I (.list ps) (.ref a) (.ref a) (.lst hs d2) rfl
  exact ⟨p, ps, as, bs, h1, h2, h4, r2, r1, c2, c1, by omega⟩
theorem in_tuple (hu : X.A.units + 66 < cLine) {pins : List (Addr × Obj)} {s : Shared} {σ : St} {vv : Value} {a : Addr} {vs : List V} {b : Bool} (I : Inv X pins σ H s) (rx : RelV v vv) (rd : RV X.K gf H al be d v) (hs : SqT X.K H a vs) (rs : RVs X.K gf H al be l vs) (h : inL d l = some b) :
    ∃ p ps as bs, d.py = some p ∧ D.pys l = some ps ∧ b = (ps.any fun z => z.eqv p) ∧ Reads s.heap (.ref a) (.tuple ps) bs ∧ Reads s.heap vv p as ∧ PyData.canLayAll0 ps = true ∧ p.canLay0 = true ∧ X.A.units + 1 + min (PyData.depthAll ps) p.depth < cLine := by
  obtain ⟨p, ps, h1, h2, h3, h4⟩ := inL_of h
  obtain ⟨d1, c1⟩ := rd.dp h1
  obtain ⟨d2, c2⟩ := rs.dp h2
  obtain ⟨as, r1⟩ := Dp.reads I p v vv d1 rx
  obtain ⟨bs, r2⟩ := Dp.reads I (.tuple ps) (.ref a) (.ref a) (.tup hs d2) rfl
  exact ⟨p, ps, as, bs, h1, h2, h4, r2, r1, c2, c1, by omega⟩
theorem os_in (hu : X.A.units + 66 < cLine) : OpS X gf (compareOp .In) opIn := by
  intro pins s σ H x y v u Q I rx ry q
  obtain ⟨al, be, st, d, e, W, S, rd, re, p⟩ := q
  obtain ⟨t, e1, q⟩ := p.look S
  obtain ⟨b, e2, rfl⟩ := Option.map_eq_some_iff.mp e1
  have fin := q _ (.bl b)
  unfold inT at e2
  split at e2
  · split at e2
    · cases e2
      obtain ⟨rfl, _⟩ := rd.str_inv
      obtain ⟨rfl, _⟩ := re.str_inv
      exact op_in_str pins s σ H _ _ v u Q I rx ry ⟨_, _, rfl, rfl, fin⟩
    · cases e2
  · obtain ⟨a, vs, rfl, q1, r1, z1⟩ := re.tup_inv
    obtain rfl : u = Value.ref a := ry
    obtain ⟨p, ps, as, bs, h1, h2, rfl, r2, r3, c2, c1, hz⟩ := in_tuple hu I rx rd q1 r1 e2
    exact SeqAt.in_tuple_reads r2 r3 c2 c1 hz ⟨.bl _, H, I, rfl, fin⟩
  · rename_i l
    obtain ⟨a, vs, rfl, q1, r1, z1⟩ := re.lstOf (l := l) S rfl
    obtain rfl : u = Value.ref a := ry
    obtain ⟨p, ps, as, bs, h1, h2, rfl, r2, r3, c2, c1, hz⟩ := in_list hu I rx rd (.of q1) r1 e2
    exact SeqAt.in_list_reads r2 r3 c2 c1 hz ⟨.bl _, H, I, rfl, fin⟩
  · split at e2
    · rename_i n kvs hk
      cases re with
      | ref ha =>
        rename_i a
        obtain ⟨o, h2, ro⟩ := S.at' ha
        rw [hk] at h2; cases h2
        obtain ⟨ws, hw, rw'⟩ := ro
        obtain rfl : u = Value.ref a := ry
        obtain ⟨k, ek, rfl⟩ := Option.map_eq_some_iff.mp e2
        have ev := rd.key ek
        subst ev
        refine d_in (o := valV ws k) (by omega) I (DGet.k hw) rx fun s' I' => ⟨.bl _, H, I', rfl, ?_⟩
        rcases rw'.1.val (ks := k) with ⟨z1, z2⟩ | ⟨_, _, z1, z2, _⟩ <;> (rw [z1] at fin; rw [z2]; exact fin)
    · rename_i n l hk
      obtain ⟨a, vs, rfl, q1, r1, z1⟩ := re.lstOf (l := l) S (by simp [TB.lstOf, hk])
      obtain rfl : u = Value.ref a := ry
      obtain ⟨p, ps, as, bs, h1, h2, rfl, r2, r3, c2, c1, hz⟩ := in_list hu I rx rd (.of q1) r1 e2
      exact SeqAt.in_list_reads r2 r3 c2 c1 hz ⟨.bl _, H, I, rfl, fin⟩
    · cases e2
  · cases e2
theorem os_notIn (hu : X.A.units + 66 < cLine) : OpS X gf (compareOp .NotIn) opNotIn := by
  intro pins s σ H x y v u Q I rx ry q
  obtain ⟨al, be, st, d, e, W, S, rd, re, p⟩ := q
  obtain ⟨t, e1, q⟩ := p.look S
  obtain ⟨b, e2, rfl⟩ := Option.map_eq_some_iff.mp e1
  have fin := q _ (.bl (!b))
  unfold inT at e2
  split at e2
  · split at e2
    · cases e2
      obtain ⟨rfl, _⟩ := rd.str_inv
      obtain ⟨rfl, _⟩ := re.str_inv
      exact op_notIn_str pins s σ H _ _ v u Q I rx ry ⟨_, _, rfl, rfl, fin⟩
    · cases e2
  · obtain ⟨a, vs, rfl, q1, r1, z1⟩ := re.tup_inv
    obtain rfl : u = Value.ref a := ry
    obtain ⟨p, ps, as, bs, h1, h2, rfl, r2, r3, c2, c1, hz⟩ := in_tuple hu I rx rd q1 r1 e2
    exact SeqAt.notIn_tuple_reads r2 r3 c2 c1 hz ⟨.bl _, H, I, rfl, fin⟩
  · rename_i l
    obtain ⟨a, vs, rfl, q1, r1, z1⟩ := re.lstOf (l := l) S rfl
    obtain rfl : u = Value.ref a := ry
    obtain ⟨p, ps, as, bs, h1, h2, rfl, r2, r3, c2, c1, hz⟩ := in_list hu I rx rd (.of q1) r1 e2
    exact SeqAt.notIn_list_reads r2 r3 c2 c1 hz ⟨.bl _, H, I, rfl, fin⟩
  · split at e2
    · rename_i n kvs hk
      cases re with
      | ref ha =>
        rename_i a
        obtain ⟨o, h2, ro⟩ := S.at' ha
        rw [hk] at h2; cases h2
        obtain ⟨ws, hw, rw'⟩ := ro
        obtain rfl : u = Value.ref a := ry
        obtain ⟨k, ek, rfl⟩ := Option.map_eq_some_iff.mp e2
        have ev := rd.key ek
        subst ev
        refine d_notIn (o := valV ws k) (by omega) I (DGet.k hw) rx fun s' I' => ⟨.bl _, H, I', rfl, ?_⟩
        rcases rw'.1.val (ks := k) with ⟨z1, z2⟩ | ⟨_, _, z1, z2, _⟩ <;> (rw [z1] at fin; rw [z2]; exact fin)
    · rename_i n l hk
      obtain ⟨a, vs, rfl, q1, r1, z1⟩ := re.lstOf (l := l) S (by simp [TB.lstOf, hk])
      obtain rfl : u = Value.ref a := ry
      obtain ⟨p, ps, as, bs, h1, h2, rfl, r2, r3, c2, c1, hz⟩ := in_list hu I rx rd (.of q1) r1 e2
      exact SeqAt.notIn_list_reads r2 r3 c2 c1 hz ⟨.bl _, H, I, rfl, fin⟩
    · cases e2
  · cases e2

/-! ### is None -/
def D.isNon : D → Bool
  | .non => true
  | _ => false
def opIs : D → D → M D
  | d, .non => M.pure (.bl d.isNon)
  | .bl a, .bl b => M.pure (.bl (a == b))
  | _, _ => M.stuck
def opIsNot : D → D → M D
  | d, .non => M.pure (.bl (!d.isNon))
  | .bl a, .bl b => M.pure (.bl (!(a == b)))
  | _, _ => M.stuck
theorem RV.non_iff (r : RV K gf H al be d v) : decide (v = .non) = d.isNon := by
  cases r <;> simp [D.isNon]
theorem os_is : OpS X gf (compareOp .Is) opIs := by
  intro pins s σ H x y v u Q I rx ry q
  obtain ⟨al, be, st, d, e, W, S, rd, re, p⟩ := q
  unfold opIs at p
  split at p
  · cases re.non_inv
    exact op_isN pins s σ H _ _ v u Q I rx ry ⟨rfl, by rw [rd.non_iff]; exact p.ok S _ (.bl _)⟩
  · cases rd.bl_inv; cases re.bl_inv
    refine op_isBl pins s σ H _ _ v u Q I rx ry ⟨_, _, rfl, rfl, ?_⟩
    rw [← Bool.beq_eq_decide_eq]
    exact p.ok S _ (.bl _)
  · exact p.elim
theorem os_isNot : OpS X gf (compareOp .IsNot) opIsNot := by
  intro pins s σ H x y v u Q I rx ry q
  obtain ⟨al, be, st, d, e, W, S, rd, re, p⟩ := q
  unfold opIsNot at p
  split at p
  · cases re.non_inv
    exact op_notN pins s σ H _ _ v u Q I rx ry ⟨rfl, by rw [rd.non_iff]; exact p.ok S _ (.bl _)⟩
  · cases rd.bl_inv; cases re.bl_inv
    refine op_notBl pins s σ H _ _ v u Q I rx ry ⟨_, _, rfl, rfl, ?_⟩
    rw [← Bool.beq_eq_decide_eq]
    exact p.ok S _ (.bl _)
  · exact p.elim

/-! ### subscripts -/
def idxT (st : Sto) (d e : D) : Option D := match d with
  | .tup l => (match e with
    | .int i => atI l i
    | _ => none)
  | .str z => (match e with
    | .int i => (atI z.cps.toList i).map fun c => .str ⟨#[c]⟩
    | _ => none)
  | .scr l => (match e with
    | .int i => (atI l i).map .int
    | _ => none)
  | .lst l => (match e with
    | .int i => atI l i
    | _ => none)
  | .ref n => (match st[n]? with
    | some (.lst l) => (match e with
      | .int i => atI l i
      | _ => none)
    | some (.dct kvs) => (keyOf e).bind fun k => valG kvs k
    | _ => none)
  | _ => none
def opIdx : D → D → M D := fun d e => M.look fun st => idxT st d e
theorem atI_rv {ds : List D} {vs : List V} {i : Int} (r : RVs K gf H al be ds vs) (h : atI ds i = some d) : ∃ v, atI vs i = some v ∧ RV K gf H al be d v := by
  unfold atI at h ⊢
  rw [← r.length]
  obtain ⟨j, h1, h2⟩ := Option.bind_eq_some_iff.mp h
  rw [h1]
  exact r.get h2
theorem chr_ok {z : Str} {c : Nat} (h : PyData.strOk z = true) (hc : c ∈ z.cps.toList) : PyData.strOk ⟨#[c]⟩ = true := by
  unfold PyData.strOk at *
  rw [Array.all_eq_true_iff_forall_mem] at h
  have := h c (by simpa using hc)
  simpa using this
theorem is_idx (hu : X.A.units + 66 < cLine) : IxR X (fun x y H Q => ∃ al be st d e W, SR X.K gf H al be st ∧ RV X.K gf H al be d x ∧ RV X.K gf H al be e y ∧ Post X.K gf be W H al (opIdx d e st) fun t _ H1 al1 => ∀ v, RV X.K gf H1 al1 be t v → Q v H1) := by
  intro value slice pins s σ H x y v u Q I rx ry q hs
  obtain ⟨al, be, st, d, e, W, S, rd, re, p⟩ := q
  obtain ⟨t, e1, q⟩ := p.look S
  unfold idxT at e1
  split at e1
  · split at e1
    · obtain ⟨a, vs, rfl, q1, r1, z1⟩ := rd.tup_inv
      cases re.int_inv
      obtain ⟨z, h1, h2⟩ := atI_rv r1 e1
      exact ix_tup value slice pins s σ H _ _ v u Q I rx ry ⟨a, vs, _, z, rfl, rfl, q1, h1, q z h2⟩ hs
    · cases e1
  · split at e1
    · obtain ⟨rfl, h1, h2⟩ := rd.str_inv
      cases re.int_inv
      obtain ⟨c, h3, rfl⟩ := Option.map_eq_some_iff.mp e1
      obtain ⟨j, _, hj, _⟩ := atI_get h3
      exact ix_str value slice pins s σ H _ _ v u Q I rx ry ⟨_, _, c, rfl, rfl, h2, h3, q _ (.str (chr_ok h1 (List.mem_of_getElem? hj)) (by show 1 ≤ sizeLine; decide))⟩ hs
    · cases e1
  · split at e1
    · cases rd with
      | scr h1 h2 =>
        rename_i a
        cases re.int_inv
        obtain ⟨c, h3, rfl⟩ := Option.map_eq_some_iff.mp e1
        refine ix_list value slice pins s σ H _ _ v u Q I rx ry ⟨a, _, _, .int c, rfl, rfl, h1.sq, ?_, q _ (.int c)⟩ hs
        unfold atI at h3 ⊢
        rw [List.length_map]
        obtain ⟨j, h4, h5⟩ := Option.bind_eq_some_iff.mp h3
        rw [h4]
        show (List.map V.int _)[j]? = _
        rw [List.getElem?_map, h5]; rfl
    · cases e1
  · split at e1
    · rename_i l _ _
      obtain ⟨a, vs, rfl, q1, r1, z1⟩ := rd.lstOf (l := l) S rfl
      cases re.int_inv
      obtain ⟨z, h1, h2⟩ := atI_rv r1 e1
      exact ix_list value slice pins s σ H _ _ v u Q I rx ry ⟨a, vs, _, z, rfl, rfl, .of q1, h1, q z h2⟩ hs
    · cases e1
  · split at e1
    · rename_i n l hk
      split at e1
      · obtain ⟨a, vs, rfl, q1, r1, z1⟩ := rd.lstOf (l := l) S (by simp [TB.lstOf, hk])
        cases re.int_inv
        obtain ⟨z, h1, h2⟩ := atI_rv r1 e1
        exact ix_list value slice pins s σ H _ _ v u Q I rx ry ⟨a, vs, _, z, rfl, rfl, .of q1, h1, q z h2⟩ hs
      · cases e1
    · rename_i n kvs hk
      cases rd with
      | ref ha =>
        rename_i a
        obtain ⟨o, h2, ro⟩ := S.at' ha
        rw [hk] at h2; cases h2
        obtain ⟨ws, hw, rw'⟩ := ro
        obtain rfl : v = Value.ref a := rx
        obtain ⟨k, ek, ev⟩ := Option.bind_eq_some_iff.mp e1
        have ey := re.key ek
        subst ey
        rcases rw'.1.val (ks := k) with ⟨z1, z2⟩ | ⟨d', v', z1, z2, z3⟩
        · rw [z1] at ev; cases ev
        · rw [z1] at ev; cases ev
          have g : DGet H a (kV k) (some v') := z2 ▸ DGet.k hw
          exact PyProof.Rows.tail_any (ops := [.ref a, u]) (dict_typeIs I g) PySem.F.slot_dict_getitem.lookup (d_getItem (by omega) I g ry fun w' s' I' r' => ⟨v', H, I', r', q _ z3⟩) hs
    · cases e1
  · cases e1
variable {a b : Expr} {ma mb : Lo → M D} {pos : Pos} {W : WX}
theorem s_idx (hu : X.A.units + 66 < cLine) (ha : SE X gf W a ma) (hb : SE X gf W b mb) (hs : PlainIx b) : SE X gf W (.Subscript a b pos) (mOp opIdx ma mb) :=
  imE (pe_ix (is_idx hu) ha hb hs) fun _ _ _ h => two_of h

/-! ### slices -/
def cutG {τ : Type} (xs : List τ) (lo hi : Option Int) : List τ := (xs.drop (HT.sIx xs.length 0 lo)).take (HT.sIx xs.length xs.length hi - HT.sIx xs.length 0 lo)
theorem cutG_len {τ : Type} (xs : List τ) (lo hi : Option Int) : (cutG xs lo hi).length ≤ xs.length := by
  unfold cutG
  rw [List.length_take, List.length_drop]; omega
theorem RVs.cut {ds : List D} {vs : List V} (r : RVs K gf H al be ds vs) (lo hi : Option Int) : RVs K gf H al be (cutG ds lo hi) (cutV vs lo hi) := by
  unfold cutG cutV
  rw [r.length]
  exact (r.drop _).take _
theorem cut_all {τ : Type} {xs : List τ} {lo hi : Option Int} (h : HT.sIx xs.length 0 lo = 0 ∧ HT.sIx xs.length xs.length hi = xs.length) : cutG xs lo hi = xs := by
  unfold cutG
  rw [h.1, h.2]; simp
def slcT (m : Bool) (d : D) (lo hi : Option Int) : M D := fun st => match d with
  | .tup l => some (.ok (.tup (cutG l lo hi)), st)
  | .str z => some (.ok (.str (cutS z lo hi)), st)
  | .lst l => mkL m (cutG l lo hi) st
  | .ref n => (match st[n]? with
    | some (.lst l) => mkL m (cutG l lo hi) st
    | _ => none)
  | _ => none
theorem cutS_ok {z : Str} {lo hi : Option Int} (h : PyData.strOk z = true) : PyData.strOk (cutS z lo hi) = true := by
  unfold PyData.strOk at *
  rw [Array.all_eq_true_iff_forall_mem] at h ⊢
  intro c hc
  refine h c ?_
  have : c ∈ (z.cps.toList.drop (HT.sIx z.length 0 lo)).take (HT.sIx z.length z.length hi - HT.sIx z.length 0 lo) := by simpa [cutS] using hc
  simpa using List.mem_of_mem_drop (List.mem_of_mem_take this)
theorem is_slc {m : Bool} : SlR X (fun x lo hi H Q => ∃ al be st d W, SR X.K gf H al be st ∧ RV X.K gf H al be d x ∧ Post X.K gf be W H al (slcT m d lo hi st) fun t _ H1 al1 => ∀ v, RV X.K gf H1 al1 be t v → Q v H1) := by
  intro pins s σ H x v vl vu lo hi sl Q I rx hs pl pu q
  obtain ⟨al, be, st, d, W, S, rd, p⟩ := q
  unfold slcT at p
  split at p
  · obtain ⟨a, vs, rfl, q1, r1, z1⟩ := rd.tup_inv
    refine sl_tupA pins s σ H _ v vl vu lo hi sl Q I rx hs pl pu ⟨a, vs, rfl, q1, fun z => ?_, fun _ q hq => ?_⟩
    · refine p.ok S _ ?_
      rw [← r1.length] at z
      rw [cut_all z]
      exact rd
    · have e := Ext.new (o := .tup (cutV vs lo hi)) hq S
      exact p _ _ (S.new hq) e _ (.tup (.of upd_same) ((r1.cut lo hi).ext e) (Nat.le_trans (cutG_len _ _ _) z1))
  · obtain ⟨rfl, h1, h2⟩ := rd.str_inv
    exact sl_str pins s σ H _ v vl vu lo hi sl Q I rx hs pl pu ⟨_, rfl, h2, p.ok S _ (.str (cutS_ok h1) (Nat.le_trans (cutS_length _ _ _) h2))⟩
  · rename_i l
    obtain ⟨a, vs, rfl, q1, r1, z1⟩ := rd.lstOf (l := l) S rfl
    exact sl_list pins s σ H _ v vl vu lo hi sl Q I rx hs pl pu ⟨a, vs, rfl, .of q1, fun q hq => mkL_ok S (r1.cut lo hi) hq p⟩
  · split at p
    · rename_i n l hk
      obtain ⟨a, vs, rfl, q1, r1, z1⟩ := rd.lstOf (l := l) S (by simp [TB.lstOf, hk])
      exact sl_list pins s σ H _ v vl vu lo hi sl Q I rx hs pl pu ⟨a, vs, rfl, .of q1, fun q hq => mkL_ok S (r1.cut lo hi) hq p⟩
    · exact p.elim
  · exact p.elim
/-- a part of a slice -/
def asI : D → Option Int
  | .int i => some i
  | _ => none
def oNone : Lo → M (Option Int) := fun _ => M.pure none
def oSome (m : Lo → M D) : Lo → M (Option Int) := fun ρ => M.bind (m ρ) fun d => M.look fun _ => (asI d).map some
def rdO (K : PySem.W.Frag) (gf : Str → Option Addr) (W : WX) (m : Lo → M (Option Int)) : TO := fun σ H Q => ∃ al be ρ st, SR K gf H al be st ∧ RS K gf H al be ρ σ ∧
  Post K gf be (wx gf W σ) H al (m ρ st) fun o _ H1 _ => Q o H1
def SO (X : Cx) (gf : Str → Option Addr) (W : WX) (e : Option Expr) (m : Lo → M (Option Int)) : Prop := PO X e (rdO X.K gf W m)
theorem imO {e : Option Expr} {t t' : TO} (h : PO X e t) (i : ∀ σ H Q, t' σ H Q → t σ H Q) : PO X e t' := ⟨fun pins s σ H Q I q => h.run pins s σ H Q I (i σ H Q q)⟩
theorem so_none : SO X gf W none oNone := imO po_none fun σ H Q ⟨al, be, ρ, st, S, L, p⟩ => p.ok S
theorem so_some (ha : SE X gf W a ma) : SO X gf W (some a) (oSome ma) := by
  refine imO (po_some ha) fun σ H Q h => ?_
  obtain ⟨al, be, ρ, st, S, L, p⟩ := h
  refine ⟨al, be, ρ, st, S, L, p.bind.mono fun d st1 H1 al1 S1 e1 p1 v rv => ?_⟩
  obtain ⟨o, e, q⟩ := p1.look S1
  obtain ⟨i, e2, rfl⟩ := Option.map_eq_some_iff.mp e
  refine ⟨i, ?_, q⟩
  cases d <;> simp [asI] at e2
  subst e2
  exact rv.int_inv
def mSlc (m : Bool) (ma : Lo → M D) (ol oh : Lo → M (Option Int)) : Lo → M D := fun ρ => M.bind (ma ρ) fun d => M.bind (ol ρ) fun lo => M.bind (oh ρ) fun hi => slcT m d lo hi
theorem s_slc {m : Bool} {lo hi : Option Expr} {ol oh : Lo → M (Option Int)} {p2 : Pos} (ha : SE X gf W a ma) (hl : SO X gf W lo ol) (hh : SO X gf W hi oh) : SE X gf W (.Subscript a (.Slice lo hi none p2) pos) (mSlc m ma ol oh) := by
  refine imE (pe_slice (is_slc (gf := gf) (m := m)) ha hl hh) fun σ H Q h => ?_
  obtain ⟨al, be, ρ, st, S, L, p⟩ := h
  refine ⟨al, be, ρ, st, S, L, p.bind.mono fun d st1 H1 al1 S1 e1 p1 v rv => ?_⟩
  refine ⟨al1, be, ρ, st1, S1, L.ext e1, p1.bind.mono fun lo st2 H2 al2 S2 e2 p2 => ?_⟩
  refine ⟨al2, be, ρ, st2, S2, (L.ext e1).ext e2, p2.bind.mono fun hi st3 H3 al3 S3 e3 p3 => ?_⟩
  exact ⟨al3, be, st3, d, _, S3, (rv.ext e2).ext e3, p3⟩
end
end TB
set_option Elab.async false
set_option linter.all false
set_option maxRecDepth 100000
set_option maxHeartbeats 4000000
/-! TB3: calls of built-ins -/
namespace TB
open PySem PySem.Spec L2

/-- a call by values -/
def CallS (X : Cx) (gf : Str → Option Addr) (f : Value) (g : List D → M D) : Prop :=
  CallR X f (fun xs H Q => ∃ al be st ds W, SR X.K gf H al be st ∧ RVs X.K gf H al be ds xs ∧ Post X.K gf be W H al (g ds st) fun t _ H1 al1 => ∀ v, RV X.K gf H1 al1 be t v → Q v H1)
def mApp (g : List D → M D) (mr : Lo → M (List D)) : Lo → M D := fun ρ => M.bind (mr ρ) g
section
variable {X : Cx} {gf : Str → Option Addr} {K : PySem.W.Frag} {H : Hp} {al be : List Addr} {st : Sto} {d e : D} {v u : V} {l : List D} {W : WX}
theorem app_of {mr : Lo → M (List D)} {g : List D → M D} {σ : St} {H : Hp} {Q : VK} (h : rdE X.K gf W (mApp g mr) σ H Q) :
    rdA X.K gf W mr σ H fun xs H1 => ∃ al be st ds W, SR X.K gf H1 al be st ∧ RVs X.K gf H1 al be ds xs ∧ Post X.K gf be W H1 al (g ds st) fun t _ H1 al1 => ∀ v, RV X.K gf H1 al1 be t v → Q v H1 := by
  obtain ⟨al, be, ρ, st, S, L, p⟩ := h
  exact ⟨al, be, ρ, st, S, L, p.bind.mono fun ds st1 H1 al1 S1 e1 p1 vs rvs => ⟨al1, be, st1, ds, _, S1, rvs, p1⟩⟩
theorem s_blt {g : List D → M D} {x : Str} {id : String} {e : Expr} {es : List Expr} {mr : Lo → M (List D)} {p pos : Pos} (hc : CallS X gf (.builtin id) g) (hg : Gl X x) (hm : X.mg x = none) (hv : bootBuiltins x = some (.builtin id)) (ha : SA X gf W (e :: es) mr)
    (hn : x ≠ "__name__") (hdb : (x == ("__debug__" : Str)) = false) (he : starEach (e :: es) X.env = (false, eval e X.env) :: starEach es X.env) (hpl : (backTo pos (starEach es X.env)).any (·.1) = false) : SE X gf W (.Call (.Name x p) (e :: es) [] pos) (mApp g mr) :=
  imE (pe_callB hc hg hm hv ha hn hdb he hpl) fun _ _ _ h => app_of h
theorem s_ty {g : List D → M D} {x : Str} {id : String} {e : Expr} {es : List Expr} {mr : Lo → M (List D)} {p pos : Pos} (hc : CallS X gf (.type id) g) (hg : Gl X x) (hm : X.mg x = none) (hv : bootBuiltins x = some (.type id)) (ha : SA X gf W (e :: es) mr)
    (hn : x ≠ "__name__") (hdb : (x == ("__debug__" : Str)) = false) (he : starEach (e :: es) X.env = (false, eval e X.env) :: starEach es X.env) (hpl : (backTo pos (starEach es X.env)).any (·.1) = false) : SE X gf W (.Call (.Name x p) (e :: es) [] pos) (mApp g mr) :=
  imE (pe_callTy hc hg hm hv ha hn hdb he hpl) fun _ _ _ h => app_of h

theorem RVs.one {d : D} {vs : List V} (r : RVs K gf H al be [d] vs) : ∃ v, vs = [v] ∧ RV K gf H al be d v := by
  cases r with
  | cons h hs => cases hs; exact ⟨_, rfl, h⟩
theorem RVs.two {d e : D} {vs : List V} (r : RVs K gf H al be [d, e] vs) : ∃ v u, vs = [v, u] ∧ RV K gf H al be d v ∧ RV K gf H al be e u := by
  cases r with
  | cons h hs => cases hs with
    | cons h' hs' => cases hs'; exact ⟨_, _, rfl, h, h'⟩

/-! ### len -/
def lenT (st : Sto) : D → Option Nat
  | .str z => some z.length
  | .tup l => some l.length
  | .lst l => some l.length
  | .scr l => some l.length
  | .ref n => (match st[n]? with
    | some (.lst l) => some l.length
    | some (.dct l) => some l.length
    | _ => none)
  | _ => none
def gLen : List D → M D
  | [d] => M.look fun st => (lenT st d).map fun n => .int n
  | _ => M.stuck
theorem cs_len : CallS X gf (.builtin "len") gLen := by
  intro pins s σ H xs us Q I rs q
  obtain ⟨al, be, st, ds, W, S, rd, p⟩ := q
  unfold gLen at p
  split at p
  · obtain ⟨v, rfl, r⟩ := rd.one
    obtain ⟨t, e1, q⟩ := p.look S
    obtain ⟨n, e2, rfl⟩ := Option.map_eq_some_iff.mp e1
    have fin := q _ (.int n)
    unfold lenT at e2
    split at e2
    · cases e2
      obtain ⟨rfl, h1, h2⟩ := r.str_inv
      exact call_len_str pins s σ H _ us Q I rs ⟨_, rfl, h2, fin⟩
    · cases e2
      obtain ⟨a, vs, rfl, q1, r1, z1⟩ := r.tup_inv
      exact call_len_seq pins s σ H _ us Q I rs ⟨a, vs, rfl, .inr q1, by rw [← r1.length]; exact fin⟩
    · rename_i l
      cases e2
      obtain ⟨a, vs, rfl, q1, r1, z1⟩ := r.lstOf (l := l) S rfl
      exact call_len_seq pins s σ H _ us Q I rs ⟨a, vs, rfl, .inl (.of q1), by rw [← r1.length]; exact fin⟩
    · cases e2
      cases r with
      | scr h1 h2 => exact call_len_seq pins s σ H _ us Q I rs ⟨_, _, rfl, .inl h1.sq, by rw [List.length_map]; exact fin⟩
    · split at e2
      · rename_i n l hk
        cases e2
        obtain ⟨a, vs, rfl, q1, r1, z1⟩ := r.lstOf (l := l) S (by simp [TB.lstOf, hk])
        exact call_len_seq pins s σ H _ us Q I rs ⟨a, vs, rfl, .inl (.of q1), by rw [← r1.length]; exact fin⟩
      · rename_i n kvs hk
        cases e2
        cases r with
        | ref ha =>
          rename_i a
          obtain ⟨o, h2, ro⟩ := S.at' ha
          rw [hk] at h2; cases h2
          obtain ⟨ws, hw, rw'⟩ := ro
          obtain ⟨u1, rfl, ru⟩ := vals1 rs
          obtain rfl : u1 = Value.ref a := ru
          exact d_len I (.inl hw) fun t s' I' => ⟨.int _, H, I', ⟨t, rfl⟩, by rw [← rw'.1.length]; exact fin⟩
      · cases e2
    · cases e2
  · exact p.elim

/-! ### all, any -/
def boolsOf : List D → Option (List Bool)
  | [] => some []
  | .bl b :: l => (boolsOf l).map (b :: ·)
  | _ :: _ => none
theorem RVs.bools : ∀ {l : List D} {vs : List V} {bs : List Bool}, RVs K gf H al be l vs → boolsOf l = some bs → vs = bs.map V.bl
  | _, _, _, .nil, e => by cases e; rfl
  | d :: l, _, bs, .cons h hs, e => by
    cases d <;> simp [boolsOf] at e
    obtain ⟨cs, e1, rfl⟩ := e
    cases h.bl_inv
    rw [RVs.bools hs e1]; rfl
def gAll : List D → M D
  | [d] => M.look fun st => ((lstOf st d).bind boolsOf).map fun bs => .bl (bs.all id)
  | _ => M.stuck
def gAny : List D → M D
  | [d] => M.look fun st => ((lstOf st d).bind boolsOf).map fun bs => .bl (bs.any id)
  | _ => M.stuck
theorem cs_all (hc : X.calm = true) : CallS X gf (.builtin "all") gAll := by
  intro pins s σ H xs us Q I rs q
  obtain ⟨al, be, st, ds, W, S, rd, p⟩ := q
  unfold gAll at p
  split at p
  · obtain ⟨v, rfl, r⟩ := rd.one
    obtain ⟨t, e1, q⟩ := p.look S
    obtain ⟨bs, e2, rfl⟩ := Option.map_eq_some_iff.mp e1
    obtain ⟨l, e3, e4⟩ := Option.bind_eq_some_iff.mp e2
    obtain ⟨a, vs, rfl, q1, r1, z1⟩ := r.lstOf S e3
    have ev := r1.bools e4
    subst ev
    exact cr_all hc pins s σ H _ us Q I rs ⟨a, bs, rfl, .of q1, q _ (.bl _)⟩
  · exact p.elim
theorem cs_any (hc : X.calm = true) : CallS X gf (.builtin "any") gAny := by
  intro pins s σ H xs us Q I rs q
  obtain ⟨al, be, st, ds, W, S, rd, p⟩ := q
  unfold gAny at p
  split at p
  · obtain ⟨v, rfl, r⟩ := rd.one
    obtain ⟨t, e1, q⟩ := p.look S
    obtain ⟨bs, e2, rfl⟩ := Option.map_eq_some_iff.mp e1
    obtain ⟨l, e3, e4⟩ := Option.bind_eq_some_iff.mp e2
    obtain ⟨a, vs, rfl, q1, r1, z1⟩ := r.lstOf S e3
    have ev := r1.bools e4
    subst ev
    exact cr_any hc pins s σ H _ us Q I rs ⟨a, bs, rfl, .of q1, q _ (.bl _)⟩
  · exact p.elim

/-! ### tuple, list -/
def gTuple : List D → M D
  | [d] => fun st => match d with
    | .tup l => some (.ok (.tup l), st)
    | _ => (match lstOf st d with
      | some l => mkT l st
      | none => none)
  | _ => M.stuck
theorem cs_tuple : CallS X gf (.type "tuple") gTuple := by
  intro pins s σ H xs us Q I rs q
  obtain ⟨al, be, st, ds, W, S, rd, p⟩ := q
  unfold gTuple at p
  split at p
  · obtain ⟨v, rfl, r⟩ := rd.one
    split at p
    · have fin := p.ok S _ r
      obtain ⟨a, vs, rfl, q1, r1, z1⟩ := r.tup_inv
      exact call_tuple_of pins s σ H _ us Q I rs ⟨a, vs, rfl, .inr ⟨q1, fin⟩⟩
    · split at p
      · rename_i l hl
        obtain ⟨a, vs, rfl, q1, r1, z1⟩ := r.lstOf S hl
        exact call_tuple_of pins s σ H _ us Q I rs ⟨a, vs, rfl, .inl ⟨.of q1, fun q hq => mkT_ok S r1 hq p⟩⟩
      · exact p.elim
  · exact p.elim
def ofKey : Key → D
  | .inl i => .int i
  | .inr x => .str x
def gList (m : Bool) : List D → M D
  | [d] => fun st => match d with
    | .tup l => mkL m l st
    | _ => (match lstOf st d with
      | some l => mkL m l st
      | none => none)
  | _ => M.stuck
theorem cs_list {m : Bool} : CallS X gf (.type "list") (gList m) := by
  intro pins s σ H xs us Q I rs q
  obtain ⟨al, be, st, ds, W, S, rd, p⟩ := q
  unfold gList at p
  split at p
  · obtain ⟨v, rfl, r⟩ := rd.one
    split at p
    · obtain ⟨a, vs, rfl, q1, r1, z1⟩ := r.tup_inv
      exact call_list_of pins s σ H _ us Q I rs ⟨a, vs, rfl, .inr q1, fun q hq => mkL_ok S r1 hq p⟩
    · split at p
      · rename_i l hl
        obtain ⟨a, vs, rfl, q1, r1, z1⟩ := r.lstOf S hl
        exact call_list_of pins s σ H _ us Q I rs ⟨a, vs, rfl, .inl (.of q1), fun q hq => mkL_ok S r1 hq p⟩
      · exact p.elim
  · exact p.elim

/-! ### int, str -/
def gInt : List D → M D
  | [.int i] => M.pure (.int i)
  | [.bl b] => M.pure (.int (if b then 1 else 0))
  | _ => M.stuck
theorem cs_int : CallS X gf (.type "int") gInt := by
  intro pins s σ H xs us Q I rs q
  obtain ⟨al, be, st, ds, W, S, rd, p⟩ := q
  unfold gInt at p
  split at p
  · obtain ⟨v, rfl, r⟩ := rd.one
    cases r.int_inv
    exact call_int1 pins s σ H _ us Q I rs (.inl ⟨_, rfl, p.ok S _ (.int _)⟩)
  · obtain ⟨v, rfl, r⟩ := rd.one
    cases r.bl_inv
    exact call_int1 pins s σ H _ us Q I rs (.inr ⟨_, rfl, p.ok S _ (.int _)⟩)
  · exact p.elim
theorem strOk_of (s : String) : PyData.strOk (Str.ofString s) = true := by
  unfold PyData.strOk
  rw [Str.ofString_eq_toList]
  rw [Array.all_eq_true_iff_forall_mem]
  intro c hc
  simp only [List.mem_toArray, List.mem_map] at hc
  obtain ⟨ch, _, rfl⟩ := hc
  have h := ch.valid
  simp only [UInt32.isValidChar, Nat.isValidChar] at h
  have : ch.toNat = ch.val.toNat := rfl
  simp only [decide_eq_true_eq]
  omega
def gStr : List D → M D
  | [.int i] => fun st => if i.natAbs.log2 < 1920 ∧ (Str.ofString (toString i)).length ≤ sizeLine then some (.ok (.str (Str.ofString (toString i))), st) else none
  | _ => M.stuck
theorem cs_str : CallS X gf (.type "str") gStr := by
  intro pins s σ H xs us Q I rs q
  obtain ⟨al, be, st, ds, W, S, rd, p⟩ := q
  unfold gStr at p
  split at p
  · obtain ⟨v, rfl, r⟩ := rd.one
    cases r.int_inv
    split at p
    · rename_i z
      exact call_str_int pins s σ H _ us Q I rs ⟨_, rfl, z.1, p.ok S _ (.str (strOk_of _) z.2)⟩
    · exact p.elim
  · exact p.elim

/-! ### isinstance -/
def tyName (st : Sto) : D → Option String
  | .non => some "NoneType"
  | .bl _ => some "bool"
  | .int _ => some "int"
  | .str _ => some "str"
  | .tup _ => some "tuple"
  | .lst _ => some "list"
  | .ref n => (match st[n]? with
    | some (.lst _) => some "list"
    | some (.dct _) => some "dict"
    | _ => none)
  | _ => none
theorem RV.ty {n : String} (S : SR K gf H al be st) (r : RV K gf H al be d v) (h : tyName st d = some n) : TyX K H v (.type n) := by
  cases r with
  | non => cases h; exact .base .non
  | bl b => cases h; exact .base (.bl b)
  | int i => cases h; exact .base (.int i)
  | str h1 h2 => cases h; exact .base (.str _)
  | tup h1 h2 z =>
    cases h
    rcases h1 with (h1 | ⟨o, h1⟩) | ⟨o, its, n, h1, h2, h3⟩
    · exact .base (.tup h1)
    · exact .fTuple h1
    · exact .kTuple h1 h2
  | lst h1 h2 z => cases h; exact .base (.lst h1.1)
  | @ref n a h1 =>
    obtain ⟨o, h2, ro⟩ := S.at' h1
    simp only [tyName, h2] at h
    cases o with
    | lst l => obtain ⟨vs, q, _⟩ := ro; cases h; exact .base (.lst q)
    | dct l => obtain ⟨vs, q, _⟩ := ro; cases h; exact .base (.dK q)
    | ins c fs => cases h
  | fn _ => cases h
  | scr h1 h2 => cases h
/-- x is of the built-in class T -/
def isi (n T : String) : Option Bool := kitB n T
def gIsi (T : String) : D → M D := fun d => M.look fun st => ((tyName st d).bind fun n => isi n T).map .bl
def mIsi (T : String) (m : Lo → M D) : Lo → M D := fun ρ => M.bind (m ρ) (gIsi T)
theorem s_isi {T : String} {x t : Str} {e : Expr} {m : Lo → M D} {p p2 pos : Pos} (ha : SE X gf W e m) (hg : Gl X "isinstance") (hm : X.mg "isinstance" = none) (ht : Gl X t) (htm : X.mg t = none) (hv : bootBuiltins t = some (.type T)) (hn : t ≠ "__name__") (hdb : (t == ("__debug__" : Str)) = false)
    (he : starEach [e, .Name t p2] X.env = (false, eval e X.env) :: starEach [.Name t p2] X.env) : SE X gf W (.Call (.Name "isinstance" p) [e, .Name t p2] [] pos) (mIsi T m) := by
  have pt : PE X (.Name t p2) (tC (.ty T)) := pe_bltn ht htm hv rfl hn hdb
  refine imE (pe_callB call_isi hg hm (by decide +kernel) (pa_cons ha (pa_cons pt pa_nil) he) (by decide) (by decide) he) fun σ H Q h => ?_
  obtain ⟨al, be, ρ, st, S, L, p⟩ := h
  refine ⟨al, be, ρ, st, S, L, p.bind.mono fun d st1 H1 al1 S1 e1 p1 v rv => ?_⟩
  obtain ⟨t, h1, q⟩ := p1.look S1
  obtain ⟨b, h2, rfl⟩ := Option.map_eq_some_iff.mp h1
  obtain ⟨n, h3, h4⟩ := Option.bind_eq_some_iff.mp h2
  exact ⟨v, .ty T, .type n, .type T, b, rfl, .ty T, rv.ty S1 h3, kit_ty h4, q _ (.bl b)⟩

/-! ### - a -/
def gNeg : D → M D
  | .int i => M.pure (.int (-i))
  | _ => M.stuck
def mNeg (m : Lo → M D) : Lo → M D := fun ρ => M.bind (m ρ) gNeg
theorem s_neg {a : Expr} {ma : Lo → M D} {pos : Pos} (ha : SE X gf W a ma) : SE X gf W (.UnaryOp .USub a pos) (mNeg ma) := by
  refine imE (pe_un un_neg ha) fun σ H Q h => ?_
  obtain ⟨al, be, ρ, st, S, L, p⟩ := h
  refine ⟨al, be, ρ, st, S, L, p.bind.mono fun d st1 H1 al1 S1 e1 p1 v rv => ?_⟩
  unfold gNeg at p1
  split at p1
  · cases rv.int_inv
    exact ⟨_, rfl, p1.ok S1 _ (.int _)⟩
  · exact p1.elim
end
end TB
set_option Elab.async false
set_option linter.all false
set_option maxRecDepth 100000
set_option maxHeartbeats 4000000
/-! TR: xs[::-1] of a list, a tuple -/
namespace TB
open PySem PySem.Spec L2 PyProof.Rows HT
section
variable {prog : Program} {w : World} {A : Around} {E : Value → Shared → Prop} {s : Shared}
theorem applied_rev {sl : Addr} {vl vu vk : Value} {n : Nat} {Q : Int × Int × Nat → Shared → Prop} (hs : s.heap.IsSliceOf sl vl vu vk) (pl : IsPart vl none) (pu : IsPart vu none) (pk : IsPart vk (some (-1)))
    (h : Q ((n : Int) - 1, -1, n) s) : wpAny (model prog w) A (Builtin.Slice.sliceApplied (.ref sl) (pure (n : Int))) Q E s := by
  obtain ⟨os, hos, hcs, hds⟩ := id hs
  unfold Builtin.Slice.sliceApplied Builtin.Slice.sliceFields
  refine wpAny_bind (wpAny_bind (wpAny_field hos hds (x := vl) rfl (wpAny_bind (wpAny_field hos hds (x := vu) rfl (wpAny_bind (wpAny_field hos hds (x := vk) rfl (wpAny_pure ?_)))))))
  refine wpAny_bind (slicePart_ pk ?_)
  show wpAny _ _ (if ((-1 : Int) == 0) = true then _ else _) _ _ s
  rw [if_neg (by decide)]
  refine wpAny_bind (slicePart_ pl (wpAny_bind (slicePart_ pu (wpAny_bind (wpAny_pure ?_)))))
  show wpAny _ _ (pure ((n : Int) - 1, (-1 : Int), Builtin.Slice.slicePlaces ((n : Int) - 1) (-1) (-1))) _ _ s
  have e : Builtin.Slice.slicePlaces ((n : Int) - 1) (-1) (-1) = n := by
    unfold Builtin.Slice.slicePlaces
    rw [if_neg (by omega), Int.neg_neg, Int.ediv_one]
    split <;> omega
  rw [e]
  exact wpAny_pure h
theorem pick_rev (xs : Array Value) : ((List.range xs.size).filterMap fun (m : Nat) => xs[(((xs.size : Int) - 1) + (m : Int) * (-1)).toNat]?).toArray = xs.toList.reverse.toArray := by
  congr 1
  apply List.ext_getElem?
  intro i
  have e : ∀ k, k ≤ xs.size → ((List.range k).filterMap fun (m : Nat) => xs[(((xs.size : Int) - 1) + (m : Int) * (-1)).toNat]?) = (xs.toList.reverse).take k := by
    intro k
    induction k with
    | zero => intro _; simp
    | succ k ih =>
      intro hk
      rw [List.range_succ, List.filterMap_append, ih (by omega), List.take_add_one]
      have e1 : (((xs.size : Int) - 1) + (k : Int) * (-1)).toNat = xs.size - 1 - k := by omega
      have e2 : xs.toList.reverse[k]? = xs[xs.size - 1 - k]? := by
        rw [List.getElem?_reverse (by simp; omega)]
        simp
      simp only [List.filterMap_cons, List.filterMap_nil, e1, e2]
      cases xs[xs.size - 1 - k]? <;> rfl
  rw [e xs.size (Nat.le_refl _)]
  have : (xs.toList.reverse).take xs.size = xs.toList.reverse := List.take_of_length_le (by simp)
  rw [this]
theorem getItem_tuple_rev {t sl : Addr} {items : Array Value} {vl vu vk : Value} {Q : Value → Shared → Prop} (ht : IsTup s.heap t items) (hs : s.heap.IsSliceOf sl vl vu vk) (pl : IsPart vl none) (pu : IsPart vu none) (pk : IsPart vk (some (-1)))
    (h : Q (.ref s.heap.objs.size) { s with heap := s.heap.push { cls := .type "tuple", data := .seq items.toList.reverse.toArray } })
    (hsz : items.size ≤ sizeLine) : wpAny (model prog w) A (getItem (.ref t) (.ref sl)) Q E s := by
  have htake : sizeOk (.seq items.toList.reverse.toArray) := by
    show items.toList.reverse.toArray.size ≤ sizeLine
    simpa using hsz
  obtain ⟨os, hos, hcs, hds⟩ := id hs
  have hTs : s.TypeIs (.ref sl) "slice" := ⟨os, hos, hcs⟩
  unfold getItem
  try with_reducible refine wpAny_holding ?_
  first | refine wpAny_bind (wpAny_pure ?_) | skip
  refine wpAny_bind (wpAny_sequenceKey ht.typeIs (by decide) ?_)
  refine wpAny_bind (wpAny_callSpecial?_slot (name := Str.ofString "__getitem__") ht.typeIs PyProof.Rows.slot_tuple_getitem
    (wpAny_call_entry PyProof.Rows.slot_tuple_getitem ht.typeIs entry_tuple_getitem ?_ (args_tuple_getitem _ _)))
  show wpAny _ _ (Builtin.Tuple.tupleItemsOf (.ref t) >>= _) _ _ s
  refine wpAny_bind (tupleItemsOf_ ht ?_)
  refine wpAny_bind (wpAny_typeOf hTs ?_)
  rw [if_pos (by decide)]
  refine wpAny_bind (applied_rev hs pl pu pk ?_)
  have hno : ¬ ((((items.size : Int) - 1) == 0 && (-1 : Int) == 1 && items.size == items.size) = true) := by simp
  show wpAny _ _ (if (((items.size : Int) - 1) == 0 && (-1 : Int) == 1 && items.size == items.size) = true then _ else _) _ _ s
  rw [if_neg hno, pick_rev]
  first
    | exact wpAny_bind (m := Builtin.Tuple.tupleExact _) (wpAny_newObj_type (wpAny_pure ⟨_, rfl, wpAny_pure h⟩) htake)
    | exact wpAny_bind (m := Builtin.Tuple.tupleExact _) (wpAny_newObj_type (wpAny_bind (wpAny_pure (wpAny_pure ⟨_, rfl, wpAny_pure h⟩))) htake)
    | exact wpAny_bind (wpAny_bind (m := Builtin.Tuple.tupleExact _) (wpAny_newObj_type (wpAny_pure (wpAny_pure ⟨_, rfl, wpAny_pure h⟩)) htake))
    | exact wpAny_bind (wpAny_bind (m := Builtin.Tuple.tupleExact _) (wpAny_newObj_type (wpAny_pure ⟨_, rfl, wpAny_pure h⟩) htake))
end
section
variable {X : Cx}
/-- e[::-1], e a list or a tuple -/
def tRev (K : PySem.W.Frag) (te : TE) : TE := fun σ H Q => te σ H fun x H1 => (∃ a xs, x = .ref a ∧ SqL K H1 a xs ∧ ∀ p, H1 p = none → Q (.ref p) (upd H1 p (.lst xs.reverse))) ∨ (∃ a xs, x = .ref a ∧ SqT K H1 a xs ∧ ∀ p, H1 p = none → Q (.ref p) (upd H1 p (.tup xs.reverse)))
theorem pe_rev {e : Expr} {te : TE} {k : Nat} {p1 p2 p3 pos : Pos} (he : PE X e te) : PE X (.Subscript e (.Slice none none (some (.UnaryOp .USub (.Constant (.int 1) k p1) p2)) p3) pos) (tRev X.K te) := by
  refine ⟨fun pins s σ H Q I h => ?_⟩
  refine Subscript_ (thn (he.run pins s σ H _ I h) fun v s1 ⟨x, H1, I1, r1, q1⟩ => ?_)
  have hst : PO X (some (.UnaryOp .USub (.Constant (.int 1) k p1) p2)) (tPart (tUn (rU fun i => .int (-i)) (tC (.int 1)))) := po_some (pe_un un_neg pe_int)
  refine wpAny_Slice (thn (po_none.run pins s1 σ H1 (fun o H2 => o = none ∧ H2 = H1) I1 ⟨rfl, rfl⟩) fun vl s2 ⟨l, H2, I2, pl, el, e2⟩ => ?_)
  subst el e2
  refine thn (po_none.run pins s2 σ H2 (fun o H3 => o = none ∧ H3 = H2) I2 ⟨rfl, rfl⟩) fun vu s3 ⟨u, H3, I3, pu, eu, e3⟩ => ?_
  subst eu e3
  refine thn (hst.run pins s3 σ H3 (fun o H4 => o = some (-1) ∧ H4 = H3) I3 ⟨1, rfl, -1, rfl, rfl, rfl⟩) fun vs s4 ⟨o, H4, I4, ps, eo, e4⟩ => ?_
  subst eo e4
  have I5 : Inv X pins σ H4 { s4 with heap := s4.heap.push { cls := .type "slice", data := .fields #[vl, vu, vs] } } := I4.kept (t' := s4.toks) fun b ob q => Heap.get?_push_of_some _ q
  rcases q1 with ⟨a, xs, ex, hx, q⟩ | ⟨a, xs, ex, hx, q⟩
  · subst ex
    cases r1
    obtain ⟨its, r, ht, hz⟩ := I5.list hx
    have hlen := r.length
    show wpAny (model X.prog X.w) X.A (subscriptTail e (.Slice none none (some (.UnaryOp .USub (.Constant (.int 1) k p1) p2)) p3) (.ref a) (.ref s4.heap.objs.size)) (EP X pins σ Q) X.xe { s4 with heap := s4.heap.push { cls := .type "slice", data := .fields #[vl, vu, vs] } }
    refine tail_any (ops := [.ref a, .ref s4.heap.objs.size]) ht.isList.typeIs (PySem.slot_list_getitem.lookup) ?_ (by with_unfolding_all rfl)
    refine wpAny_getItem_list_slice ht.isList (Heap.IsSliceOf.new _ vl vu vs) pl pu ps (by decide) ?_ (by rw [List.size_toArray]; omega)
    rw [PySem.W.krv_pick]
    refine ⟨.ref _, _, I5.laid (t' := s4.toks) (o := .lst xs.reverse) (fun b ob q => Heap.get?_push_of_some _ q) (Nat.le_refl _) ?_, rfl, q _ (I5.hok.fresh (Nat.le_refl _))⟩
    exact ⟨by rw [List.length_reverse]; exact hz, _, 0, r.reverse, Heap.get?_push_size _ rfl⟩
  · subst ex
    cases r1
    obtain ⟨its, r, ht, hz⟩ := I5.tuple hx
    have hlen := r.length
    show wpAny (model X.prog X.w) X.A (subscriptTail e (.Slice none none (some (.UnaryOp .USub (.Constant (.int 1) k p1) p2)) p3) (.ref a) (.ref s4.heap.objs.size)) (EP X pins σ Q) X.xe { s4 with heap := s4.heap.push { cls := .type "slice", data := .fields #[vl, vu, vs] } }
    refine tail_any (ops := [.ref a, .ref s4.heap.objs.size]) ht.typeIs (PyProof.Rows.slot_tuple_getitem.lookup) ?_ (by with_unfolding_all rfl)
    refine getItem_tuple_rev ht (Heap.IsSliceOf.new _ vl vu vs) pl pu ps ?_ (by rw [List.size_toArray]; omega)
    refine ⟨.ref _, _, I5.laid (t' := s4.toks) (o := .tup xs.reverse) (fun b ob q => Heap.get?_push_of_some _ q) (Nat.le_refl _) ?_, rfl, q _ (I5.hok.fresh (Nat.le_refl _))⟩
    exact ⟨by rw [List.length_reverse]; exact hz, _, r.reverse, IsTup.new _ _⟩
end
section
variable {X : Cx} {gf : Str → Option Addr} {W : WX}
def gRev (m : Bool) (d : D) : M D := fun st => match d with
  | .tup l => some (.ok (.tup l.reverse), st)
  | _ => (match lstOf st d with
    | some l => mkL m l.reverse st
    | none => none)
def mRev (m : Bool) (ma : Lo → M D) : Lo → M D := fun ρ => M.bind (ma ρ) (gRev m)
theorem s_rev {m : Bool} {a : Expr} {ma : Lo → M D} {k : Nat} {p1 p2 p3 pos : Pos} (ha : SE X gf W a ma) : SE X gf W (.Subscript a (.Slice none none (some (.UnaryOp .USub (.Constant (.int 1) k p1) p2)) p3) pos) (mRev m ma) := by
  refine imE (pe_rev ha) fun σ H Q h => ?_
  obtain ⟨al, be, ρ, st, S, L, p⟩ := h
  refine ⟨al, be, ρ, st, S, L, p.bind.mono fun d st1 H1 al1 S1 e1 p1 v rv => ?_⟩
  unfold gRev at p1
  split at p1
  · obtain ⟨a, vs, rfl, q1, r1, z1⟩ := rv.tup_inv
    refine .inr ⟨a, vs, rfl, q1, fun q hq => ?_⟩
    have e := Ext.new (o := .tup vs.reverse) hq S1
    exact p1 _ _ (S1.new hq) e _ (.tup (.of upd_same) (r1.reverse.ext e) (by rw [List.length_reverse]; exact z1))
  · split at p1
    · rename_i l hl
      obtain ⟨a, vs, rfl, q1, r1, z1⟩ := rv.lstOf S1 hl
      exact .inl ⟨a, vs, rfl, .of q1, fun q hq => mkL_ok S1 r1.reverse hq p1⟩
    · exact p1.elim
end
end TB
set_option Elab.async false
set_option linter.all false
set_option maxRecDepth 100000
set_option maxHeartbeats 4000000
/-! TB4: methods of built-ins, what is walked, loops, comprehensions -/
namespace TB
open PySem PySem.Spec L2

/-! ### methods of built-ins -/
def MtS (X : Cx) (gf : Str → Option Addr) (id : String) (g : D → List D → M D) : Prop :=
  MtR X id (fun x xs H Q => ∃ al be st d ds W, SR X.K gf H al be st ∧ RV X.K gf H al be d x ∧ RVs X.K gf H al be ds xs ∧ Post X.K gf be W H al (g d ds st) fun t _ H1 al1 => ∀ v, RV X.K gf H1 al1 be t v → Q v H1)
inductive BT where
  | list | str | dict
def BT.nm : BT → String
  | .list => "list"
  | .str => "str"
  | .dict => "dict"
def btOk (st : Sto) (d : D) : BT → Bool
  | .list => (lstOf st d).isSome
  | .str => (match d with
    | .str _ => true
    | _ => false)
  | .dict => (match d with
    | .ref n => (match st[n]? with
      | some (.dct _) => true
      | _ => false)
    | _ => false)
section
variable {X : Cx} {gf : Str → Option Addr} {K : PySem.W.Frag} {H : Hp} {al be : List Addr} {st : Sto} {d e : D} {v u : V} {l : List D} {W : WX}
theorem RV.btOk {T : BT} (S : SR K gf H al be st) (r : RV K gf H al be d v) (h : TB.btOk st d T = true) : tyV K T.nm v H := by
  cases T with
  | list =>
    obtain ⟨l, hl⟩ := Option.isSome_iff_exists.mp h
    obtain ⟨a, vs, rfl, q1, r1, z1⟩ := r.lstOf S hl
    exact .inl ⟨rfl, vs, .of q1⟩
  | str =>
    unfold TB.btOk at h
    cases d <;> simp at h
    obtain ⟨rfl, _⟩ := r.str_inv
    rfl
  | dict =>
    unfold TB.btOk at h
    cases r with
    | @ref n a h1 =>
      obtain ⟨o, h2, ro⟩ := S.at' h1
      simp only [h2] at h
      cases o with
      | dct kvs => obtain ⟨ws, q, _⟩ := ro; exact .inr (.inr (.inl ⟨rfl, .inl ⟨_, q⟩⟩))
      | lst l => simp at h
      | ins c fs => simp at h
    | _ => simp at h
def mBM (T : BT) (g : D → List D → M D) (mo : Lo → M D) (mr : Lo → M (List D)) : Lo → M D := fun ρ => M.bind (mo ρ) fun d => M.bind (M.look fun st => if btOk st d T then some () else none) fun _ => M.bind (mr ρ) fun ds => g d ds
theorem look_if {τ : Type} {W : Str → Hp → Prop} {f : Sto → Bool} {m : Unit → M τ} {k : τ → Sto → Hp → List Addr → Prop} (S : SR K gf H al be st) (p : Post K gf be W H al (M.bind (M.look fun st => if f st then some () else none) m st) k) : f st = true ∧ Post K gf be W H al (m () st) k := by
  obtain ⟨_, e, q⟩ := p.bind.look S
  split at e
  · exact ⟨by assumption, q⟩
  · cases e
variable {o a : Expr} {es : List Expr} {mo : Lo → M D} {mr : Lo → M (List D)} {name : Str} {apos cpos : Pos} {T : BT} {id : String} {g : D → List D → M D}
theorem s_bm (pa : PlainAttrs T.nm) (slot : Slot T.nm name id) (hty : typeOf (.builtin id) = pure (.type "method_descriptor")) (hm : MtS X gf id g) (ho : SE X gf W o mo) (ha : SA X gf W (a :: es) mr)
    (hbase : attributeBase o name X.env (eval o X.env) = eval o X.env)
    (hfew : ((backTo cpos (starEach (a :: es) X.env)).all (fun x => !x.1) && (backToKw cpos (keywordEach [] X.env)).all (fun x => x.1.isSome)
      && decide ((a :: es).length + ([] : List Keyword).length + (if ([] : List Keyword).isEmpty then 0 else 1) < 30)) = true)
    (hline : (apos.endLine == cpos.line) = true) (hs : starEach (a :: es) X.env = (false, eval a X.env) :: starEach es X.env) (hplain : (backTo cpos (starEach es X.env)).any (·.1) = false) :
    SE X gf W (.Call (.Attribute o name apos) (a :: es) [] cpos) (mBM T g mo mr) := by
  refine imE (pe_bm pa slot hty hm ho ha hbase hfew hline hs hplain) fun σ H Q h => ?_
  obtain ⟨al, be, ρ, st, S, L, p⟩ := h
  refine ⟨al, be, ρ, st, S, L, p.bind.mono fun d st1 H1 al1 S1 e1 p1 v rv => ?_⟩
  obtain ⟨hb, p1⟩ := look_if S1 p1
  refine ⟨rv.btOk S1 hb, al1, be, ρ, st1, S1, L.ext e1, p1.bind.mono fun ds st2 H2 al2 S2 e2 p2 vs rvs => ?_⟩
  exact ⟨al2, be, st2, d, ds, _, S2, rv.ext e2, rvs, p2⟩
theorem s_bm0 (pa : PlainAttrs T.nm) (slot : Slot T.nm name id) (hty : typeOf (.builtin id) = pure (.type "method_descriptor")) (hm : MtS X gf id g) (ho : SE X gf W o mo)
    (hbase : attributeBase o name X.env (eval o X.env) = eval o X.env) (hline : (apos.endLine == cpos.line) = true) : SE X gf W (.Call (.Attribute o name apos) [] [] cpos) (mBM T g mo aNil) := by
  refine imE (pe_bm0 pa slot hty hm ho hbase hline) fun σ H Q h => ?_
  obtain ⟨al, be, ρ, st, S, L, p⟩ := h
  refine ⟨al, be, ρ, st, S, L, p.bind.mono fun d st1 H1 al1 S1 e1 p1 v rv => ?_⟩
  obtain ⟨hb, p1⟩ := look_if S1 p1
  exact ⟨rv.btOk S1 hb, al1, be, st1, d, [], wx gf W σ, S1, rv, .nil, p1.bind.ok S1⟩

/-- a list of the store -/
theorem RV.lstRef {n : Nat} (S : SR K gf H al be st) (r : RV K gf H al be (.ref n) v) (h : st[n]? = some (.lst l)) : ∃ a vs, v = .ref a ∧ al[n]? = some a ∧ H a = some (.lst vs) ∧ RVs K gf H al be l vs ∧ l.length ≤ sizeLine := by
  cases r with
  | ref ha =>
    obtain ⟨o, h2, ro⟩ := S.at' ha
    rw [h] at h2; cases h2
    obtain ⟨vs, q, r, z⟩ := ro
    exact ⟨_, vs, rfl, ha, q, r, z⟩
theorem RV.dctRef {n : Nat} {kvs : List (Key × D)} (S : SR K gf H al be st) (r : RV K gf H al be (.ref n) v) (h : st[n]? = some (.dct kvs)) : ∃ a ws, v = .ref a ∧ al[n]? = some a ∧ H a = some (.dK ws) ∧ RPs K gf H al be kvs ws ∧ KsOk kvs := by
  cases r with
  | ref ha =>
    obtain ⟨o, h2, ro⟩ := S.at' ha
    rw [h] at h2; cases h2
    obtain ⟨vs, q, r⟩ := ro
    exact ⟨_, vs, rfl, ha, q, r⟩
def gAppend : D → List D → M D
  | .ref n, [x] => fun st => match st[n]? with
    | some (.lst l) => if l.length < sizeLine then some (.ok .non, st.set n (.lst (l ++ [x]))) else none
    | _ => none
  | _, _ => M.stuck
theorem ms_append : MtS X gf "list.append" gAppend := by
  intro pins s σ H x xs v us Q I rx rs q
  obtain ⟨al, be, st, d, ds, W, S, rd, rds, p⟩ := q
  unfold gAppend at p
  split at p
  · split at p
    · rename_i n y _ l hk
      split at p
      · rename_i hz
        obtain ⟨a, vs, rfl, ha, q1, r1, z1⟩ := rd.lstRef S hk
        obtain ⟨y', rfl, ry⟩ := rds.one
        have e := Ext.write (o := .lst (vs ++ [y'])) S ha
        refine mt_append pins s σ H _ _ v us Q I rx rs ⟨a, vs, y', rfl, rfl, q1, by rw [← r1.length]; exact hz, ?_⟩
        exact p _ _ (S.write (mo := .lst (l ++ [y])) ha ⟨_, upd_same, (r1.append (.cons ry .nil)).ext e, by rw [List.length_append, List.length_singleton]; omega⟩) e _ .non
      · exact p.elim
    · exact p.elim
  · exact p.elim
def gExtend : D → List D → M D
  | .ref n, [x] => fun st => match st[n]?, lstOf st x with
    | some (.lst l), some m => if l.length + m.length ≤ sizeLine then some (.ok .non, st.set n (.lst (l ++ m))) else none
    | _, _ => none
  | _, _ => M.stuck
theorem ms_extend : MtS X gf "list.extend" gExtend := by
  intro pins s σ H x xs v us Q I rx rs q
  obtain ⟨al, be, st, d, ds, W, S, rd, rds, p⟩ := q
  unfold gExtend at p
  split at p
  · split at p
    · rename_i n y _ _ l m hk hm
      split at p
      · rename_i hz
        obtain ⟨a, vs, rfl, ha, q1, r1, z1⟩ := rd.lstRef S hk
        obtain ⟨y', rfl, ry⟩ := rds.one
        obtain ⟨b, ws, rfl, q2, r2, z2⟩ := ry.lstOf S hm
        have e := Ext.write (o := .lst (vs ++ ws)) S ha
        refine mt_extend pins s σ H _ _ v us Q I rx rs ⟨a, b, vs, ws, rfl, rfl, q1, q2, by rw [← r1.length, ← r2.length]; exact hz, ?_⟩
        exact p _ _ (S.write (mo := .lst (l ++ m)) ha ⟨_, upd_same, (r1.append r2).ext e, by rw [List.length_append]; omega⟩) e _ .non
      · exact p.elim
    · exact p.elim
  · exact p.elim
/-- xs.pop(i), 0 ≤ i -/
def gPop : D → List D → M D
  | .ref n, [.int i] => fun st => match st[n]? with
    | some (.lst l) => if 0 ≤ i then (match l[i.toNat]? with
      | some x => some (.ok x, st.set n (.lst (l.eraseIdx i.toNat)))
      | none => none) else none
    | _ => none
  | .ref n, [] => fun st => match st[n]? with
    | some (.lst l) => (match l[l.length - 1]? with
      | some x => some (.ok x, st.set n (.lst l.dropLast))
      | none => none)
    | _ => none
  | _, _ => M.stuck
theorem RVs.dropLast {ds : List D} {vs : List V} (h : RVs K gf H al be ds vs) : RVs K gf H al be ds.dropLast vs.dropLast := by
  rw [List.dropLast_eq_take, List.dropLast_eq_take, h.length]
  exact h.take _
theorem ms_pop : MtS X gf "list.pop" gPop := by
  intro pins s σ H x xs v us Q I rx rs q
  obtain ⟨al, be, st, d, ds, W, S, rd, rds, p⟩ := q
  unfold gPop at p
  split at p
  · split at p
    · rename_i n i _ l hk
      split at p
      · rename_i h0
        split at p
        · rename_i y hy
          obtain ⟨a, vs, rfl, ha, q1, r1, z1⟩ := rd.lstRef S hk
          obtain ⟨y', rfl, ry⟩ := rds.one
          cases ry.int_inv
          obtain ⟨yv, hyv, ryv⟩ := r1.get hy
          have hlt := (List.getElem?_eq_some_iff.mp hy).1
          have hsz : sizeLine = 16777216 := sizeLine_eq
          have e := Ext.write (o := .lst (vs.eraseIdx i.toNat)) S ha
          refine mt_popAt pins s σ H _ _ v us Q I rx rs ⟨a, vs, i, i.toNat, yv, rfl, rfl, q1, by omega, by omega, ?_, hyv, ?_⟩
          · exact PySem.seqIndex_of h0 (by rw [← r1.length]; omega)
          · exact p _ _ (S.write (mo := .lst (l.eraseIdx i.toNat)) ha ⟨_, upd_same, (r1.eraseIdx _).ext e, Nat.le_trans (len_erase _ _) z1⟩) e _ (ryv.ext e)
        · exact p.elim
      · exact p.elim
    · exact p.elim
  · split at p
    · rename_i n _ l hk
      split at p
      · rename_i y hy
        obtain ⟨a, vs, rfl, ha, q1, r1, z1⟩ := rd.lstRef S hk
        cases rds
        obtain ⟨yv, hyv, ryv⟩ := r1.get hy
        have e := Ext.write (o := .lst vs.dropLast) S ha
        refine mt_pop pins s σ H _ _ v us Q I rx rs ⟨a, vs, yv, rfl, rfl, q1, by rw [← r1.length]; exact hyv, ?_⟩
        exact p _ _ (S.write (mo := .lst l.dropLast) ha ⟨_, upd_same, r1.dropLast.ext e, by rw [List.length_dropLast]; omega⟩) e _ (ryv.ext e)
      · exact p.elim
    · exact p.elim
  · exact p.elim

/-! ### what is walked -/
structure Src where
  items : List D
  grd : Option Nat
def Src.ok (s : Src) (st : Sto) : Prop := match s.grd with
  | none => True
  | some n => st[n]? = some (.lst s.items)
/-- an iterator over these items -/
def JS (K : PySem.W.Frag) (gf : Str → Option Addr) (be : List Addr) (H : Hp) (al : List Addr) (src : Src) (J : It) : Prop :=
  ∀ (i : Nat) be1 H1 al1 st1, Gr K be H al be1 H1 al1 → SR K gf H1 al1 be1 st1 → src.ok st1 →
    (∀ d, src.items[i]? = some d → J.go i H1 ∧ ∀ x H2, J.yld i H1 x H2 → SR K gf H2 al1 be1 st1 ∧ Ext K be1 H1 al1 H2 al1 ∧ RV K gf H2 al1 be1 d x) ∧ (src.items.length ≤ i → J.stop i H1)
def rdI (K : PySem.W.Frag) (gf : Str → Option Addr) (W : WX) (m : Lo → M Src) : TI := fun σ H R => ∃ al be ρ st, SR K gf H al be st ∧ RS K gf H al be ρ σ ∧
  Post K gf be (wx gf W σ) H al (m ρ st) fun src _ H1 al1 => src.items.length ≤ sizeLine → ∀ J, JS K gf be H1 al1 src J → R J H1
def SI (X : Cx) (gf : Str → Option Addr) (W : WX) (tg iter : Expr) (m : Lo → M Src) : Prop := PI X tg iter (rdI X.K gf W m)
theorem imI {tg iter : Expr} {t t' : TI} (h : PI X tg iter t) (i : ∀ σ H Q, t' σ H Q → t σ H Q) : PI X tg iter t' := ⟨fun pins s σ H Q I q => h.run pins s σ H Q I (i σ H Q q)⟩
variable {tg : Expr} {ma : Lo → M D}
theorem js_fr {a : Addr} {vs : List V} (h : FrL H al be a vs) (r : RVs K gf H al be l vs) : JS K gf be H al ⟨l, none⟩ (Itl K a) := by
  intro i be1 H1 al1 st1 g S1 _
  have hq : SqL K H1 a vs := (g.frl _ _ h).sq
  refine ⟨fun d hd => ?_, fun hi => ⟨vs, hq, by rw [← r.length]; exact hi⟩⟩
  obtain ⟨v, hv, rv⟩ := r.get hd
  refine ⟨⟨vs, v, hq, hv⟩, fun x H2 y => ?_⟩
  obtain ⟨rfl, y⟩ := y
  have e := y vs hq
  rw [hv] at e
  cases e
  exact ⟨S1, Ext.refl, rv.gr g⟩
theorem js_ref {n : Nat} {a : Addr} (ha : al[n]? = some a) : JS K gf be H al ⟨l, some n⟩ (Itl K a) := by
  intro i be1 H1 al1 st1 g S1 hk
  obtain ⟨de, q⟩ := g.pre
  have ha1 : al1[n]? = some a := by rw [q, List.getElem?_append_left (List.getElem?_eq_some_iff.mp ha).1]; exact ha
  obtain ⟨o, h2, ro⟩ := S1.at' ha1
  have hk' : st1[n]? = some (.lst l) := hk
  rw [hk'] at h2; cases h2
  obtain ⟨vs, hw, r, z⟩ := ro
  have hq : SqL K H1 a vs := .of hw
  refine ⟨fun d hd => ?_, fun hi => ⟨vs, hq, by rw [← r.length]; exact hi⟩⟩
  obtain ⟨v, hv, rv⟩ := r.get hd
  refine ⟨⟨vs, v, hq, hv⟩, fun x H2 y => ?_⟩
  obtain ⟨rfl, y⟩ := y
  have e := y vs hq
  rw [hv] at e
  cases e
  exact ⟨S1, Ext.refl, rv⟩
theorem js_tup {a : Addr} {vs : List V} (h : SqT K H a vs) (r : RVs K gf H al be l vs) : JS K gf be H al ⟨l, none⟩ (Itt K a) := by
  intro i be1 H1 al1 st1 g S1 _
  have hq : SqT K H1 a vs := g.tup _ _ h
  refine ⟨fun d hd => ?_, fun hi => ⟨vs, hq, by rw [← r.length]; exact hi⟩⟩
  obtain ⟨v, hv, rv⟩ := r.get hd
  refine ⟨⟨vs, v, hq, hv⟩, fun x H2 y => ?_⟩
  obtain ⟨rfl, y⟩ := y
  have e := y vs hq
  rw [hv] at e
  cases e
  exact ⟨S1, Ext.refl, rv.gr g⟩
/-- a text, sign by sign -/
def signs (z : Str) : List D := z.cps.toList.map fun c => .str ⟨#[c]⟩
theorem js_str {z : Str} (h : PyData.strOk z = true) : JS K gf be H al ⟨signs z, none⟩ (Its z) := by
  intro i be1 H1 al1 st1 g S1 _
  refine ⟨fun d hd => ?_, fun hi => ?_⟩
  · have hd : (signs z)[i]? = some d := hd
    unfold signs at hd
    rw [List.getElem?_map] at hd
    obtain ⟨c, h1, rfl⟩ := Option.map_eq_some_iff.mp hd
    have hlt : i < z.cps.size := by simpa using (List.getElem?_eq_some_iff.mp h1).1
    have h1' : z.cps[i]? = some c := by simpa using h1
    refine ⟨hlt, fun x H2 y => ?_⟩
    obtain ⟨rfl, c', h2, rfl⟩ := y
    rw [h1'] at h2
    cases h2
    exact ⟨S1, Ext.refl, .str (chr_ok h (List.mem_of_getElem? h1)) (by show 1 ≤ sizeLine; decide)⟩
  · have hi : (signs z).length ≤ i := hi
    unfold signs at hi
    simp at hi
    exact hi
def srcQ (st : Sto) : D → Option Src
  | .lst l => some ⟨l, none⟩
  | .ref n => (match st[n]? with
    | some (.lst l) => some ⟨l, some n⟩
    | _ => none)
  | .tup l => some ⟨l, none⟩
  | .str z => some ⟨signs z, none⟩
  | _ => none
/-- a list, a tuple, a text -/
def iSeqR (K : PySem.W.Frag) (tl : TE) : TI := fun σ H R => tl σ H fun x H1 => (∃ a, x = .ref a ∧ (∃ xs, SqL K H1 a xs) ∧ R (Itl K a) H1) ∨ (∃ a, x = .ref a ∧ (∃ xs, SqT K H1 a xs) ∧ R (Itt K a) H1) ∨ ∃ z, x = .str z ∧ R (Its z) H1
theorem pi_seq {l : Expr} {tl : TE} (hl : PE X l tl) : PI X tg l (iSeqR X.K tl) := by
  refine ⟨fun pins s σ H R I h => ?_⟩
  refine thn (hl.run pins s σ H _ I h) fun v s1 ⟨x, H1, I1, r1, q1⟩ => ?_
  rcases q1 with ⟨a, e, ⟨xs, hq⟩, q⟩ | ⟨a, e, ⟨xs, hq⟩, q⟩ | ⟨z, ex, q⟩
  · subst e
    cases r1
    obtain ⟨its, rv, p, hz⟩ := I1.list hq
    refine wpAny_pyIter_list p.isList ?_
    refine ⟨s1.heap.objs.size, [s1.heap.objs.size], _, _, H1, rfl, I1.kept (t' := s1.toks) fun b o e => Heap.get?_push_of_some _ e, turn_list a _, ⟨_, Heap.get?_push_size _ rfl, rfl, rfl⟩, fun b hb => ?_, q⟩
    have e : b = s1.heap.objs.size := by simpa using hb
    subst e
    exact I1.fpOk (Nat.le_refl _) (I1.hok.fresh (Nat.le_refl _))
  · subst e
    cases r1
    obtain ⟨its, rv, p, hz⟩ := I1.tuple hq
    refine wpAny_pyIter_tuple (show s1.heap.IsTuple a its.toArray from p) ?_
    refine ⟨s1.heap.objs.size, [s1.heap.objs.size], _, _, H1, rfl, I1.kept (t' := s1.toks) fun b o e => Heap.get?_push_of_some _ e, turn_tuple a _, ⟨_, Heap.get?_push_size _ rfl, rfl, rfl⟩, fun b hb => ?_, q⟩
    have e : b = s1.heap.objs.size := by simpa using hb
    subst e
    exact I1.fpOk (Nat.le_refl _) (I1.hok.fresh (Nat.le_refl _))
  · subst ex
    obtain ⟨t, rfl⟩ := r1
    cases ha : z.cps.all (· < 128)
    · exact wpAny_pyIter_wide ha (pi_one (tk := s1.toks) I1 _ (turn_str _ z t "str_iterator" (.inr rfl)) ⟨_, Heap.get?_push_size _ rfl, rfl, rfl⟩ q)
    · exact wpAny_pyIter_ascii ha (pi_one (tk := s1.toks) I1 _ (turn_str _ z t "str_ascii_iterator" (.inl rfl)) ⟨_, Heap.get?_push_size _ rfl, rfl, rfl⟩ q)
def iSeq (ma : Lo → M D) : Lo → M Src := fun ρ => M.bind (ma ρ) fun d => M.look fun st => srcQ st d
theorem si_seq (ha : SE X gf W a ma) : SI X gf W tg a (iSeq ma) := by
  refine imI (pi_seq ha) fun σ H R h => ?_
  obtain ⟨al, be, ρ, st, S, L, p⟩ := h
  refine ⟨al, be, ρ, st, S, L, p.bind.mono fun d st1 H1 al1 S1 e1 p1 v rv => ?_⟩
  obtain ⟨src, e, q⟩ := p1.look S1
  unfold srcQ at e
  split at e
  · cases e
    cases rv with
    | lst h1 h2 z => exact .inl ⟨_, rfl, ⟨_, h1.sq⟩, q z _ (js_fr h1 h2)⟩
  · split at e
    · rename_i n l hk
      cases e
      obtain ⟨a, vs, rfl, ha, q1, r1, z1⟩ := rv.lstRef S1 hk
      exact .inl ⟨_, rfl, ⟨_, .of q1⟩, q z1 _ (js_ref ha)⟩
    · cases e
  · cases e
    obtain ⟨a, vs, rfl, q1, r1, z1⟩ := rv.tup_inv
    exact .inr (.inl ⟨_, rfl, ⟨_, q1⟩, q z1 _ (js_tup q1 r1)⟩)
  · cases e
    obtain ⟨rfl, h1, h2⟩ := rv.str_inv
    refine .inr (.inr ⟨_, rfl, q ?_ _ (js_str h1)⟩)
    show (signs _).length ≤ _
    unfold signs
    simp only [List.length_map, Array.length_toList]
    exact h2
  · cases e
/-- range(n), range(a, b) -/
def rngL (lo : Int) (n : Nat) : List D := (List.range n).map fun i => .int (lo + (i : Nat))
theorem rngL_get {lo : Int} {n i : Nat} {d : D} (h : (rngL lo n)[i]? = some d) : i < n ∧ d = .int (lo + (i : Nat)) := by
  unfold rngL at h
  rw [List.getElem?_map] at h
  obtain ⟨j, h1, rfl⟩ := Option.map_eq_some_iff.mp h
  obtain ⟨h2, h3⟩ := List.getElem?_eq_some_iff.mp h1
  simp at h2 h3
  subst h3
  exact ⟨h2, rfl⟩
theorem rngL_len {lo : Int} {n : Nat} : (rngL lo n).length = n := by simp [rngL]
theorem js_rng {lo : Int} {n : Nat} : JS K gf be H al ⟨rngL lo n, none⟩ (Itr lo n) := by
  intro i be1 H1 al1 st1 g S1 _
  refine ⟨fun d hd => ?_, fun hi => ?_⟩
  · obtain ⟨h1, rfl⟩ := rngL_get hd
    refine ⟨h1, fun x H2 y => ?_⟩
    obtain ⟨rfl, rfl⟩ := y
    exact ⟨S1, Ext.refl, .int _⟩
  · rw [show (⟨rngL lo n, none⟩ : Src).items.length = n from rngL_len] at hi
    exact hi
def srcR1 : D → Option Src
  | .int j => if 0 ≤ j ∧ j ≤ 16777216 then some ⟨rngL 0 j.toNat, none⟩ else none
  | _ => none
def iRng1 (ma : Lo → M D) : Lo → M Src := fun ρ => M.bind (ma ρ) fun d => M.look fun _ => srcR1 d
theorem big62 {j : Int} (h0 : 0 ≤ j) (h1 : j ≤ 16777216) : -(2 ^ 62) ≤ j ∧ j < 2 ^ 62 := ⟨by omega, by omega⟩
theorem si_rng1 {p pos : Pos} (hg : Gl X "range") (hm : X.mg "range" = none) (ha : SE X gf W a ma) (hs : starEach [a] X.env = [(false, eval a X.env)]) : SI X gf W tg (.Call (.Name "range" p) [a] [] pos) (TB.iRng1 ma) := by
  refine imI (pi_range1 hg hm (pa_cons ha pa_nil hs) hs) fun σ H R h => ?_
  obtain ⟨al, be, ρ, st, S, L, p⟩ := h
  refine ⟨al, be, ρ, st, S, L, p.bind.mono fun d st1 H1 al1 S1 e1 p1 v rv => ?_⟩
  obtain ⟨src, e, q⟩ := p1.look S1
  unfold srcR1 at e
  split at e
  · split at e
    · rename_i j c
      cases e
      cases rv.int_inv
      obtain ⟨b1, b2⟩ := big62 c.1 c.2
      refine ⟨j, rfl, b1, b2, q ?_ _ js_rng⟩
      show (rngL _ _).length ≤ _
      rw [rngL_len, sizeLine_eq]
      omega
    · cases e
  · cases e
/-- zip of two tuples -/
def zipD (l m : List D) : List D := (l.zip m).map fun p => .tup [p.1, p.2]
theorem js_zipT {a b : Addr} {l m : List D} {vs us : List V} (h : SqT K H a vs) (r : RVs K gf H al be l vs) (h2 : SqT K H b us) (r2 : RVs K gf H al be m us) : JS K gf be H al ⟨zipD l m, none⟩ (RZ.ItzT K a b) := by
  intro i be1 H1 al1 st1 g S1 _
  have hq : SqT K H1 a vs := g.tup _ _ h
  have hq2 : SqT K H1 b us := g.tup _ _ h2
  refine ⟨fun d hd => ?_, fun hi => ⟨vs, us, hq, hq2, ?_⟩⟩
  · have hd : ((l.zip m).map fun p => D.tup [p.1, p.2])[i]? = some d := hd
    rw [List.getElem?_map] at hd
    obtain ⟨⟨x, y⟩, hz, rfl⟩ := Option.map_eq_some_iff.mp hd
    obtain ⟨hx, hy⟩ := List.getElem?_zip_eq_some.mp hz
    obtain ⟨v, hv, rv⟩ := r.get hx
    obtain ⟨u, hu, ru⟩ := r2.get hy
    refine ⟨⟨vs, us, v, u, hq, hq2, hv, hu⟩, fun w H2 yl => ?_⟩
    obtain ⟨T, x', y', rfl, hT, rfl, f1, f2⟩ := yl
    have e1 := f1 vs hq
    rw [hv] at e1
    cases e1
    have e2 := f2 us hq2
    rw [hu] at e2
    cases e2
    have e := Ext.new (o := .tup [v, u]) hT S1
    exact ⟨S1.new (o := .tup [v, u]) hT, e, .tup (.inl (.inl upd_same)) (.cons ((rv.gr g).gr e.toGr) (.cons ((ru.gr g).gr e.toGr) .nil)) (by show 2 ≤ sizeLine; decide)⟩
  · have hi : (zipD l m).length ≤ i := hi
    unfold zipD at hi
    rw [List.length_map, List.length_zip] at hi
    have l1 := r.length
    have l2 := r2.length
    omega
def srcZ : List D → Option Src
  | [.tup l, .tup m] => some ⟨zipD l m, none⟩
  | _ => none
def iZip (mr : Lo → M (List D)) : Lo → M Src := fun ρ => M.bind (mr ρ) fun ds => M.look fun _ => srcZ ds
theorem si_zip {e e2 : Expr} {mr : Lo → M (List D)} {p pos tpos : Pos} {elts : List Expr} {kk : Nat} (hg : Gl X "zip") (hm : X.mg "zip" = none) (ha : SA X gf W [e, e2] mr)
    (hs : starEach [e, e2] X.env = (false, eval e X.env) :: starEach [e2] X.env) (hpl : (backTo pos (starEach [e2] X.env)).any (·.1) = false) : SI X gf W (.Tuple elts kk tpos) (.Call (.Name "zip" p) [e, e2] [] pos) (iZip mr) := by
  refine imI (RZ.pi_zipA hg hm ha hs hpl) fun σ H R h => ?_
  obtain ⟨al, be, ρ, st, S, L, p⟩ := h
  refine ⟨al, be, ρ, st, S, L, p.bind.mono fun ds st1 H1 al1 S1 e1 p1 vs rvs => ?_⟩
  obtain ⟨src, e, q⟩ := p1.look S1
  unfold srcZ at e
  split at e
  · cases e
    cases rvs with
    | cons r1 rr =>
      cases rr with
      | cons r2 rr =>
        cases rr
        obtain ⟨a, vs, rfl, q1, r1', z1⟩ := r1.tup_inv
        obtain ⟨b, us, rfl, q2, r2', z2⟩ := r2.tup_inv
        refine ⟨a, b, vs, us, rfl, .inr ⟨q1, q2, q ?_ _ (js_zipT q1 r1' q2 r2')⟩⟩
        show (zipD _ _).length ≤ _
        unfold zipD
        rw [List.length_map, List.length_zip]
        omega
  · cases e
end
end TB
set_option Elab.async false
set_option linter.all false
set_option maxRecDepth 100000
set_option maxHeartbeats 4000000
/-! TB5: targets, comprehensions, statements, loops -/
namespace TB
open PySem PySem.Spec L2

/-! ### targets -/
inductive Tg where
  | one (i : Nat) | tup (is : List Nat)
def setV (σ : St) : List Nat → List V → St
  | i :: is, v :: vs => setV (σ.set i (some v)) is vs
  | _, _ => σ
def setD (ρ : Lo) : List Nat → List D → Lo
  | i :: is, v :: vs => setD (ρ.set i (some v)) is vs
  | _, _ => ρ
def gT (K : PySem.W.Frag) : Tg → TG
  | .one i => gName i
  | .tup is => fun v σ H Q => ∃ a xs, v = .ref a ∧ (SqT K H a xs ∨ SqL K H a xs) ∧ xs.length = is.length ∧ Q (setV σ is xs) H
def bindT : Tg → D → Lo → Option Lo
  | .one i, d, ρ => some (ρ.set i (some d))
  | .tup is, .tup ds, ρ => if ds.length = is.length then some (setD ρ is ds) else none
  | .tup is, .lst ds, ρ => if ds.length = is.length then some (setD ρ is ds) else none
  | .tup _, _, _ => none
section
variable {X : Cx} {gf : Str → Option Addr} {K : PySem.W.Frag} {H : Hp} {al be : List Addr} {st : Sto} {d e : D} {v u : V} {l : List D} {W : WX}
theorem RS.setAll : ∀ {is : List Nat} {ds : List D} {vs : List V} {ρ : Lo} {σ : St}, RS K gf H al be ρ σ → RVs K gf H al be ds vs → RS K gf H al be (setD ρ is ds) (setV σ is vs)
  | [], _, _, _, _, L, _ => by simpa [setD, setV] using L
  | i :: is, _, _, _, _, L, .nil => by simpa [setD, setV] using L
  | i :: is, _, _, _, _, L, .cons h hs => by
    unfold setD setV
    exact RS.setAll (L.set h) hs
/-- a value is bound -/
theorem bind_ok {t : Tg} {ρ ρ1 : Lo} {σ : St} {Q : St → Hp → Prop} (L : RS K gf H al be ρ σ) (r : RV K gf H al be d v) (h : bindT t d ρ = some ρ1)
    (q : ∀ σ1, RS K gf H al be ρ1 σ1 → (∀ own : List Nat, (∀ i ∈ (match t with | .one i => [i] | .tup is => is), i ∈ own) → wipe σ1 own = wipe σ own) → Q σ1 H) : gT K t v σ H Q := by
  have wset : ∀ (σ : St) (i : Nat) (x : V) (own : List Nat), i ∈ own → wipe (σ.set i (some x)) own = wipe σ own := by
    intro σ i x own
    induction own with
    | nil => intro h; simp at h
    | cons j own ih =>
      intro h
      unfold wipe
      by_cases hj : i ∈ own
      · rw [ih hj]
      · have e : i = j := by
          rcases List.mem_cons.mp h with h | h
          · exact h
          · exact absurd h hj
        subst e
        have comm : ∀ (own : List Nat), i ∉ own → (wipe (σ.set i (some x)) own).set i none = (wipe σ own).set i none := by
          intro own
          induction own with
          | nil => intro _; simp [wipe]
          | cons k own ih2 =>
            intro hn
            simp only [List.mem_cons, not_or] at hn
            unfold wipe
            rw [List.set_comm _ _ (Ne.symm hn.1), ih2 hn.2, List.set_comm _ _ hn.1]
        exact comm own hj
  cases t with
  | one i =>
    simp only [bindT, Option.some.injEq] at h
    subst h
    exact q _ (L.set r) fun own ho => wset σ i v own (ho i (by simp))
  | tup is =>
    have all : ∀ (own : List Nat) (is : List Nat) (vs : List V) (σ : St), (∀ i ∈ is, i ∈ own) → wipe (setV σ is vs) own = wipe σ own := by
      intro own is
      induction is with
      | nil => intro vs σ _; simp [setV]
      | cons i is ih =>
        intro vs σ hs
        cases vs with
        | nil => simp [setV]
        | cons v vs =>
          unfold setV
          rw [ih vs _ fun j hj => hs j (List.mem_cons_of_mem _ hj), wset σ i v own (hs i List.mem_cons_self)]
    cases d <;> simp only [bindT] at h <;> try (cases h; done)
    · split at h
      · rename_i ds hl
        cases h
        obtain ⟨a, vs, rfl, q1, r1, z1⟩ := r.tup_inv
        exact ⟨a, vs, rfl, .inl q1, by rw [← r1.length]; exact hl, q _ (L.setAll r1) fun own ho => all own is vs σ ho⟩
      · cases h
    · split at h
      · rename_i ds hl
        cases h
        obtain ⟨q1, r1, z1⟩ : ∃ a vs, v = .ref a ∧ FrL H al be a vs ∧ RVs K gf H al be ds vs := by
          cases r with
          | lst h hs z => exact ⟨_, _, rfl, h, hs⟩
        obtain ⟨rfl, q2, r2⟩ := z1
        exact ⟨q1, r1, rfl, .inr q2.sq, by rw [← r2.length]; exact hl, q _ (L.setAll r2) fun own ho => all own is r1 σ ho⟩
      · cases h
def SG (X : Cx) (tg : Expr) (t : Tg) : Prop := PG X tg (gT X.K t)
theorem sg_one {i : Nat} {x : Str} {pos : Pos} (hN : X.N.Nodup) (hi : X.N[i]? = some x) (hx : Loc X.env.scope x) (hf : X.fn x = true ∨ X.env.scope.names.lookup x = some .local) : SG X (.Name x pos) (.one i) := pg_name hN hi hx hf
/-- names, one after another -/
def gNs : List Nat → TGs
  | is => fun vs σ H Q => vs.length = is.length ∧ Q (setV σ is vs) H
theorem imGs {es : List Expr} {t t' : TGs} (h : PGs X es t) (i : ∀ v σ H Q, t' v σ H Q → t v σ H Q) : PGs X es t' := ⟨fun pins s σ H vs us Q I r q => h.run pins s σ H vs us Q I r (i _ σ H Q q)⟩
theorem imG {e : Expr} {t t' : TG} (h : PG X e t) (i : ∀ v σ H Q, t' v σ H Q → t v σ H Q) : PG X e t' := ⟨fun pins s σ H vs us Q I r q => h.run pins s σ H vs us Q I r (i _ σ H Q q)⟩
inductive NamesAt (X : Cx) : List Expr → List Nat → Prop
  | nil : NamesAt X [] []
  | cons {x : Str} {i : Nat} {pos : Pos} {es : List Expr} {is : List Nat} : X.N[i]? = some x → Loc X.env.scope x → (X.fn x = true ∨ X.env.scope.names.lookup x = some .local) → NamesAt X es is → NamesAt X (.Name x pos :: es) (i :: is)
theorem sgs_names (hN : X.N.Nodup) : ∀ {es : List Expr} {is : List Nat}, NamesAt X es is → PGs X es (gNs is) ∧ (assignEach es X.env).length = is.length ∧ (assignEach es X.env).findIdx? (·.1) = none
  | _, _, .nil => ⟨imGs pgs_nil fun vs σ H Q ⟨h, q⟩ => ⟨List.length_eq_zero_iff.mp h, by simpa [setV] using q⟩, rfl, rfl⟩
  | _, _, .cons (x := x) (i := i) (pos := pos) (es := es) (is := is) hi hx hf r => by
    obtain ⟨h1, h2, h3⟩ := sgs_names hN r
    have e : assignEach (.Name x pos :: es) X.env = (false, assign (.Name x pos) X.env) :: assignEach es X.env := by simp only [assignEach]
    refine ⟨imGs (pgs_cons (pg_name hN hi hx hf) h1 (by rw [e]; rfl)) fun vs σ H Q ⟨h, q⟩ => ?_, ?_, ?_⟩
    · cases vs with
      | nil => simp at h
      | cons v vs =>
        refine ⟨v, vs, rfl, ?_, ?_⟩
        · simpa using h
        · simpa only [setV] using q
    · rw [e, List.length_cons, h2]; rfl
    · rw [e, List.findIdx?_cons, h3]; rfl
theorem sg_tup {es : List Expr} {is : List Nat} {k : Nat} {pos : Pos} (hN : X.N.Nodup) (hc : X.calm = true) (h : NamesAt X es is) : SG X (.Tuple es k pos) (.tup is) := by
  obtain ⟨h1, h2, h3⟩ := sgs_names hN h
  refine ⟨fun pins s σ H v u Q I r ⟨a, xs, e, hs, hl, q⟩ => ?_⟩
  rcases hs with hs | hs
  · exact (pg_tup hc h1 h2 h3).run pins s σ H v u Q I r ⟨a, xs, e, hs, hl, hl, q⟩
  · exact (pg_lst hc h1 h2 h3).run pins s σ H v u Q I r ⟨a, xs, e, hs, hl, hl, q⟩

/-! ### comprehensions -/
def wipeD (ρ : Lo) : List Nat → Lo
  | [] => ρ
  | v :: vs => (wipeD ρ vs).set v none
theorem RS.setNone {ρ : Lo} {σ : St} (L : RS K gf H al be ρ σ) (i : Nat) : RS K gf H al be (ρ.set i none) (σ.set i none) := by
  refine ⟨by simp [L.len], fun j e h => ?_⟩
  by_cases hj : i = j
  · subst hj
    by_cases hl : i < ρ.length
    · rw [List.getElem?_set_self hl] at h
      cases h
    · rw [List.getElem?_eq_none (by simpa using hl)] at h
      cases h
  · rw [List.getElem?_set_ne hj] at h
    rw [List.getElem?_set_ne hj]
    exact L.val j e h
theorem RS.wipe {ρ : Lo} {σ : St} (L : RS K gf H al be ρ σ) : ∀ own : List Nat, RS K gf H al be (wipeD ρ own) (L2.wipe σ own)
  | [] => L
  | i :: own => by
    unfold wipeD L2.wipe
    exact (RS.wipe L own).setNone i
theorem RS.gr {H1 : Hp} {al1 be1 : List Addr} {ρ : Lo} {σ : St} (L : RS K gf H al be ρ σ) (e : Gr K be H al be1 H1 al1) : RS K gf H1 al1 be1 ρ σ :=
  ⟨L.len, fun i d h => let ⟨v, h1, h2⟩ := L.val i d h; ⟨v, h1, h2.gr e⟩⟩
open Classical in
noncomputable def lcG (src : Src) (t : Tg) (own : List Nat) (tc : Lo → M Bool) (me : Lo → M D) (ρ : Lo) : List D → M (List D)
  | [] => fun st => if src.ok st then some (.ok [], st) else none
  | d :: ds => fun st => if src.ok st then (match bindT t d (wipeD ρ own) with
    | none => none
    | some ρ1 => M.bind (M.quiet (tc ρ1)) (fun b => if b then M.bind (M.quiet (me ρ1)) (fun y => M.bind (lcG src t own tc me ρ ds) fun r => M.pure (y :: r)) else lcG src t own tc me ρ ds) st) else none
theorem lcG_quiet {src : Src} {t : Tg} {own : List Nat} {tc : Lo → M Bool} {me : Lo → M D} {ρ : Lo} : ∀ {ds : List D} {st st1 : Sto} {c : Str}, lcG src t own tc me ρ ds st ≠ some (.exn c, st1)
  | [], st, st1, c => by
    unfold lcG
    split <;> simp
  | d :: ds, st, st1, c => by
    intro h
    unfold lcG at h
    split at h
    · split at h
      · cases h
      · rcases M.bind_exn h with h | ⟨b, st2, _, h⟩
        · exact M.quiet_exn h
        · cases b with
          | true =>
            rw [if_pos rfl] at h
            rcases M.bind_exn h with h | ⟨y, st3, _, h⟩
            · exact M.quiet_exn h
            · rcases M.bind_exn h with h | ⟨r, st4, _, h⟩
              · exact lcG_quiet h
              · cases h
          | false =>
            rw [if_neg Bool.false_ne_true] at h
            exact lcG_quiet h
    · cases h
/-- one turn -/
theorem lcG_cons {src : Src} {t : Tg} {own : List Nat} {tc : Lo → M Bool} {me : Lo → M D} {ρ : Lo} {d : D} {ds : List D} {st stf : Sto} {r : List D} (h : lcG src t own tc me ρ (d :: ds) st = some (.ok r, stf)) :
    src.ok st ∧ ∃ ρ1 b st1, bindT t d (wipeD ρ own) = some ρ1 ∧ tc ρ1 st = some (.ok b, st1) ∧
      (b = true → ∃ y st2 r', me ρ1 st1 = some (.ok y, st2) ∧ lcG src t own tc me ρ ds st2 = some (.ok r', stf) ∧ r = y :: r') ∧ (b = false → lcG src t own tc me ρ ds st1 = some (.ok r, stf)) := by
  unfold lcG at h
  split at h
  · rename_i hok
    split at h
    · cases h
    · rename_i ρ1 hb
      obtain ⟨b, st1, h1, h⟩ := M.bind_ok h
      refine ⟨hok, ρ1, b, st1, hb, M.quiet_ok h1, fun hbt => ?_, fun hbf => ?_⟩
      · subst hbt
        rw [if_pos rfl] at h
        obtain ⟨y, st2, h3, h⟩ := M.bind_ok h
        obtain ⟨r', st3, h5, h⟩ := M.bind_ok h
        cases h
        exact ⟨y, st2, r', M.quiet_ok h3, h5, rfl⟩
      · subst hbf
        rw [if_neg Bool.false_ne_true] at h
        exact h
  · cases h
noncomputable def mLc (m : Bool) (t : Tg) (own : List Nat) (it : Lo → M Src) (tc : Lo → M Bool) (me : Lo → M D) : Lo → M D := fun ρ => M.bind (it ρ) fun src => M.bind (lcG src t own tc me ρ src.items) (mkL m)
abbrev W0 : WX := fun _ _ _ _ => False
/-- the reading of a comprehension -/
theorem lc_of {m : Bool} {t : Tg} {own : List Nat} {it : Lo → M Src} {tc : Lo → M Bool} {me : Lo → M D} (ht : ∀ i ∈ (match t with | .one i => [i] | .tup is => is), i ∈ own) {σ : St} {H : Hp} {Q : VK} (h : rdE K gf W (mLc m t own it tc me) σ H Q) :
    tLc (rdI K gf W it) (gT K t) (rdT K gf W0 tc) (rdE K gf W0 me) own σ H Q := by
  obtain ⟨al, be, ρ, st, S, L, p⟩ := h
  refine ⟨al, be, ρ, st, S, L, p.bind.mono fun src st1 H1 al1 S1 e1 p1 hsz J hJ D hD => ?_⟩
  -- the whole run
  match hr : lcG src t own tc me ρ src.items st1 with
  | none => unfold M.bind at p1; rw [hr] at p1; exact p1.elim
  | some (.exn c, st2) => exact (lcG_quiet hr).elim
  | some (.ok full, stf) =>
    rw [M.bind_of hr] at p1
    have DnB : D ∉ be := fun hb => by
      obtain ⟨vs, q⟩ := S1.res D hb
      rw [hD] at q; cases q
    have L1 := L.ext e1
    refine ⟨fun i mm Hc => ∃ alc stc acc vs rest, i ≤ src.items.length ∧ mm = src.items.length - i ∧ SR K gf Hc alc (D :: be) stc ∧ Hc D = some (.lst vs) ∧ RVs K gf Hc alc (D :: be) acc vs ∧ acc.length ≤ i ∧
      Gr K be H1 al1 (D :: be) Hc alc ∧ (∀ b ∈ be, Hc b = H1 b) ∧ lcG src t own tc me ρ (src.items.drop i) stc = some (.ok rest, stf) ∧ acc ++ rest = full, ⟨src.items.length, al1, st1, [], [], full, Nat.zero_le _, by simp, ?_, upd_same, .nil, Nat.zero_le _, ?_, ?_, by simpa using hr, by simp⟩, ?_⟩
    · -- the store with the new list
      have e := Ext.new (o := .lst []) hD S1
      have S2 := S1.new (o := .lst []) hD
      have npal : D ∉ al1 := fun q => by
        obtain ⟨ob, ro⟩ := S1.mem q
        have := ro.mut
        rw [hD] at this
        exact this
      have g : Gr K be H1 al1 (D :: be) (upd H1 D (.lst [])) al1 := ⟨⟨[], by simp⟩, e.tup, fun a xs hf => ?_, e.scr⟩
      · refine ⟨S2.len, S2.nd, fun b hb => ?_, fun b hb => ?_, fun j o a h1 h2 => ?_⟩
        · rcases List.mem_cons.mp hb with rfl | hb
          · exact npal
          · exact S2.dis b hb
        · rcases List.mem_cons.mp hb with rfl | hb
          · exact ⟨[], upd_same⟩
          · exact S2.res b hb
        · have ro := S1.obj j o a h1 h2
          have hne : a ≠ D := fun z => by
            have := ro.mut
            rw [z, hD] at this
            exact this
          exact ro.gr g (upd_ne hne) fun dx q => by rw [upd_ne (ne_of_none q hD)]; exact q
      · obtain ⟨h1, h2, h3⟩ := hf
        refine ⟨by rw [upd_ne (ne_of_none h1 hD)]; exact h1, h2, ?_⟩
        simp only [List.mem_cons, not_or]
        exact ⟨ne_of_none h1 hD, h3⟩
    · have e := Ext.new (o := .lst []) hD S1
      refine ⟨⟨[], by simp⟩, e.tup, fun a xs hf => ?_, e.scr⟩
      obtain ⟨h1, h2, h3⟩ := hf
      refine ⟨by rw [upd_ne (ne_of_none h1 hD)]; exact h1, h2, ?_⟩
      simp only [List.mem_cons, not_or]
      exact ⟨ne_of_none h1 hD, h3⟩
    · intro b hb
      obtain ⟨vs, q⟩ := S1.res b hb
      exact upd_ne (ne_of_none q hD)
    · -- turns
      rintro i mm Hc ⟨alc, stc, acc, vs, rest, hi, rfl, Sc, hDc, racc, hal, gc, resc, run, efull⟩
      by_cases hlt : i < src.items.length
      · -- a turn
        right
        have hd : src.items[i]? = some src.items[i] := List.getElem?_eq_getElem hlt
        rw [List.drop_eq_getElem_cons hlt] at run
        obtain ⟨hok, ρ1, b, st2, hb, h1, hT, hF⟩ := lcG_cons run
        obtain ⟨hitem, _⟩ := hJ i (D :: be) Hc alc stc gc Sc hok
        obtain ⟨hgo, hy⟩ := hitem _ hd
        refine ⟨hgo, fun H' => ∃ alc stc acc vs rest, SR K gf H' alc (D :: be) stc ∧ H' D = some (.lst vs) ∧ RVs K gf H' alc (D :: be) acc vs ∧ acc.length ≤ i + 1 ∧
          Gr K be H1 al1 (D :: be) H' alc ∧ (∀ b ∈ be, H' b = H1 b) ∧ lcG src t own tc me ρ (src.items.drop (i + 1)) stc = some (.ok rest, stf) ∧ acc ++ rest = full, ?_, ?_⟩
        · rintro H' ⟨alc, stc, acc, vs, rest, q⟩
          exact ⟨src.items.length - (i + 1), by omega, alc, stc, acc, vs, rest, hlt, rfl, q⟩
        · intro x H2 hx
          obtain ⟨S2, e2, r2⟩ := hy x H2 hx
          have Lc : RS K gf H2 alc (D :: be) ρ σ := (L1.gr gc).gr e2.toGr
          refine bind_ok (Lc.wipe own) r2 hb fun σ1 L3 hw => ⟨?_, ?_⟩
          · have hw2 := hw own ht
            rw [hw2]
            -- wipe of wipe
            have ww : ∀ (own : List Nat) (σ : St), L2.wipe (L2.wipe σ own) own = L2.wipe σ own := by
              intro own σ
              apply List.ext_getElem?
              intro j
              by_cases hj : j ∈ own
              · have z1 : ∀ (τ : St), ¬ ∃ v, (L2.wipe τ own)[j]? = some (some v) := fun τ ⟨v, h⟩ => (wipe_some h).2 hj
                have ln : ∀ (τ : St), (L2.wipe τ own).length = τ.length := fun τ => wipe_length τ own
                by_cases hl : j < σ.length
                · have a1 : j < (L2.wipe (L2.wipe σ own) own).length := by rw [ln, ln]; exact hl
                  have a2 : j < (L2.wipe σ own).length := by rw [ln]; exact hl
                  rw [List.getElem?_eq_getElem a1, List.getElem?_eq_getElem a2]
                  cases c1 : (L2.wipe (L2.wipe σ own) own)[j] with
                  | some v => exact (z1 _ ⟨v, by rw [List.getElem?_eq_getElem a1, c1]⟩).elim
                  | none =>
                    cases c2 : (L2.wipe σ own)[j] with
                    | some v => exact (z1 _ ⟨v, by rw [List.getElem?_eq_getElem a2, c2]⟩).elim
                    | none => rfl
                · rw [List.getElem?_eq_none (by rw [ln, ln]; omega), List.getElem?_eq_none (by rw [ln]; omega)]
              · rw [wipe_out hj, wipe_out hj]
            exact ww own σ
          · -- the test
            refine ⟨alc, D :: be, ρ1, stc, S2, L3, ?_⟩
            rw [h1]
            intro H3 al3 S3 e3
            have g3 : Gr K be H1 al1 (D :: be) H3 al3 := (gc.trans e2.toGr).trans e3.toGr
            have hD3 : H3 D = some (.lst vs) := by rw [e3.res D List.mem_cons_self, e2.res D List.mem_cons_self]; exact hDc
            have res3 : ∀ b ∈ be, H3 b = H1 b := fun b hb => by rw [e3.res b (List.mem_cons_of_mem _ hb), e2.res b (List.mem_cons_of_mem _ hb)]; exact resc b hb
            have racc3 : RVs K gf H3 al3 (D :: be) acc vs := (racc.ext e2).ext e3
            cases b with
            | false =>
              refine iteF ?_
              exact ⟨al3, st2, acc, vs, rest, S3, hD3, racc3, by omega, g3, res3, hF rfl, efull⟩
            | true =>
              refine iteT ?_
              obtain ⟨y, st3, r', hm, hrest, rfl⟩ := hT rfl
              refine ⟨al3, D :: be, ρ1, st2, S3, L3.ext e3, ?_⟩
              rw [hm]
              intro H4 al4 S4 e4 yv ryv
              have hD4 : H4 D = some (.lst vs) := by rw [e4.res D List.mem_cons_self]; exact hD3
              have hal2 : vs.length < sizeLine := by rw [← racc.length]; omega
              refine ⟨vs, hD4, hal2, ?_⟩
              -- the item is appended
              have npal : D ∉ al4 := S4.dis D List.mem_cons_self
              have gu : Gr K (D :: be) H4 al4 (D :: be) (upd H4 D (.lst (vs ++ [yv]))) al4 := by
                refine ⟨⟨[], by simp⟩, fun a xs q => ?_, fun a xs q => ?_, fun a xs q => ?_⟩
                · rcases q with (q | ⟨ob, q⟩) | q
                  · have hne : a ≠ D := ne_of q hD4 (by intro z; cases z)
                    exact .inl (.inl (by rw [upd_ne hne]; exact q))
                  · have hne : a ≠ D := ne_of q hD4 (by intro z; cases z)
                    exact .inl (.inr ⟨ob, by rw [upd_ne hne]; exact q⟩)
                  · exact .inr q
                · obtain ⟨q1, q2, q3⟩ := q
                  have hne : a ≠ D := fun z => q3 (z ▸ List.mem_cons_self)
                  exact ⟨by rw [upd_ne hne]; exact q1, q2, q3⟩
                · rcases q with ⟨ob, q⟩ | q
                  · have hne : a ≠ D := ne_of q hD4 (by intro z; cases z)
                    exact .inl ⟨ob, by rw [upd_ne hne]; exact q⟩
                  · exact .inr q
              refine ⟨al4, st3, acc ++ [y], vs ++ [yv], r', ?_, upd_same, ((racc3.ext e4).append (.cons ryv .nil)).gr gu, by simp; omega, (g3.trans e4.toGr).trans gu, fun b hb => ?_, hrest, by simpa using efull⟩
              · refine ⟨S4.len, S4.nd, S4.dis, fun b hb => ?_, fun j o a k1 k2 => ?_⟩
                · by_cases hbD : b = D
                  · subst hbD; exact ⟨_, upd_same⟩
                  · rw [upd_ne hbD]; exact S4.res b hb
                · have ro := S4.obj j o a k1 k2
                  have hne : a ≠ D := fun z => npal (z ▸ List.mem_of_getElem? k2)
                  exact ro.gr gu (upd_ne hne) fun dx q => by rw [upd_ne (ne_of q hD4 (by intro z; cases z))]; exact q
              · have hbD : b ≠ D := fun z => DnB (z ▸ hb)
                rw [upd_ne hbD, e4.res b (List.mem_cons_of_mem _ hb)]
                exact res3 b hb
      · -- the end
        left
        have ei : i = src.items.length := by omega
        subst ei
        rw [List.drop_length] at run
        unfold lcG at run
        split at run
        · rename_i hok
          simp only [Option.some.injEq, Prod.mk.injEq, Res.ok.injEq] at run
          obtain ⟨rfl, rfl⟩ := run
          rw [List.append_nil] at efull
          subst efull
          obtain ⟨_, hstop⟩ := hJ src.items.length (D :: be) Hc alc stc gc Sc hok
          refine ⟨hstop (Nat.le_refl _), ?_⟩
          -- the list is handed on
          have npal : D ∉ alc := Sc.dis D List.mem_cons_self
          have hz : acc.length ≤ sizeLine := Nat.le_trans hal hsz
          cases m with
          | false =>
            have gd : Gr K (D :: be) Hc alc be Hc alc := ⟨⟨[], by simp⟩, fun _ _ q => q, fun a xs q => ⟨q.1, q.2.1, fun z => q.2.2 (List.mem_cons_of_mem _ z)⟩, fun _ _ q => q⟩
            have S5 : SR K gf Hc alc be stc := ⟨Sc.len, Sc.nd, fun b hb => Sc.dis b (List.mem_cons_of_mem _ hb), fun b hb => Sc.res b (List.mem_cons_of_mem _ hb), fun j o a k1 k2 => (Sc.obj j o a k1 k2).gr gd rfl fun _ q => q⟩
            unfold mkL at p1
            rw [if_pos hz, if_neg Bool.false_ne_true] at p1
            exact p1 Hc alc S5 ⟨gc.trans gd, resc⟩ _ (.lst ⟨hDc, npal, DnB⟩ (racc.gr gd) hz)
          | true =>
            have gd : Gr K (D :: be) Hc alc be Hc (alc ++ [D]) := ⟨⟨[D], rfl⟩, fun _ _ q => q, fun a xs q => ⟨q.1, by
              simp only [List.mem_append, List.mem_singleton, not_or]
              exact ⟨q.2.1, fun z => q.2.2 (z ▸ List.mem_cons_self)⟩, fun z => q.2.2 (List.mem_cons_of_mem _ z)⟩, fun _ _ q => q⟩
            unfold mkL at p1
            rw [if_pos hz, if_pos rfl] at p1
            have S5 : SR K gf Hc (alc ++ [D]) be (stc ++ [.lst acc]) := by
              refine ⟨by simp [Sc.len], ?_, fun b hb => ?_, fun b hb => Sc.res b (List.mem_cons_of_mem _ hb), fun j o a k1 k2 => ?_⟩
              · rw [List.nodup_append]
                exact ⟨Sc.nd, by simp, fun a ha b hb => by simp at hb; subst hb; rintro rfl; exact npal ha⟩
              · simp only [List.mem_append, List.mem_singleton, not_or]
                exact ⟨Sc.dis b (List.mem_cons_of_mem _ hb), fun z => DnB (z ▸ hb)⟩
              · by_cases hj : j < stc.length
                · rw [List.getElem?_append_left hj] at k1
                  rw [List.getElem?_append_left (by rw [Sc.len]; exact hj)] at k2
                  exact (Sc.obj j o a k1 k2).gr gd rfl fun _ q => q
                · have hj' : j = stc.length := by
                    have := (List.getElem?_eq_some_iff.mp k1).1
                    simp at this; omega
                  subst hj'
                  rw [List.getElem?_append_right (Nat.le_refl _)] at k1
                  rw [List.getElem?_append_right (by rw [Sc.len]; exact Nat.le_refl _)] at k2
                  simp [Sc.len] at k1 k2
                  subst k1 k2
                  exact ⟨vs, hDc, racc.gr gd, hz⟩
            refine p1 Hc (alc ++ [D]) S5 ⟨gc.trans gd, resc⟩ _ (.ref ?_)
            rw [← Sc.len, List.getElem?_append_right (Nat.le_refl _)]
            simp
        · cases run
end
end TB
set_option Elab.async false
set_option linter.all false
set_option maxRecDepth 100000
set_option maxHeartbeats 4000000
/-! TB6: statements -/
namespace TB
open PySem PySem.Spec L2

inductive Out where
  | nx (ρ : Lo) | bk (ρ : Lo) | ct (ρ : Lo) | rt (d : D) | ex (c : Str) (ρ : Lo)
abbrev MS := Lo → Sto → Option (Out × Sto)

section
variable {X : Cx} {gf : Str → Option Addr} {K : PySem.W.Frag} {H : Hp} {al be : List Addr} {st : Sto} {d e : D} {v u : V} {l : List D} {W : WX}

def PostO (K : PySem.W.Frag) (gf : Str → Option Addr) (be : List Addr) (W : WX) (H : Hp) (al : List Addr) (D : Ends) : Option (Out × Sto) → Prop
  | none => False
  | some (.nx ρ, st1) => ∀ H1 al1 σ1, SR K gf H1 al1 be st1 → Ext K be H al H1 al1 → RS K gf H1 al1 be ρ σ1 → D.nx σ1 H1
  | some (.bk ρ, st1) => ∀ H1 al1 σ1, SR K gf H1 al1 be st1 → Ext K be H al H1 al1 → RS K gf H1 al1 be ρ σ1 → D.bk σ1 H1
  | some (.ct ρ, st1) => ∀ H1 al1 σ1, SR K gf H1 al1 be st1 → Ext K be H al H1 al1 → RS K gf H1 al1 be ρ σ1 → D.ct σ1 H1
  | some (.rt d, st1) => ∀ H1 al1 v, SR K gf H1 al1 be st1 → Ext K be H al H1 al1 → RV K gf H1 al1 be d v → D.rt v H1
  | some (.ex c ρ, st1) => ∀ H1 al1 σ1, SR K gf H1 al1 be st1 → Ext K be H al H1 al1 → RS K gf H1 al1 be ρ σ1 → wx gf W σ1 c H1
theorem PostO.ext {H1 : Hp} {al1 : List Addr} {D : Ends} {r : Option (Out × Sto)} (p : PostO K gf be W H al D r) (e : Ext K be H al H1 al1) : PostO K gf be W H1 al1 D r := by
  match r, p with
  | some (.nx ρ, st1), p => exact fun H2 al2 σ1 S e2 L => p H2 al2 σ1 S (e.trans e2) L
  | some (.bk ρ, st1), p => exact fun H2 al2 σ1 S e2 L => p H2 al2 σ1 S (e.trans e2) L
  | some (.ct ρ, st1), p => exact fun H2 al2 σ1 S e2 L => p H2 al2 σ1 S (e.trans e2) L
  | some (.rt d, st1), p => exact fun H2 al2 σ1 S e2 L => p H2 al2 σ1 S (e.trans e2) L
  | some (.ex c ρ, st1), p => exact fun H2 al2 σ1 S e2 L => p H2 al2 σ1 S (e.trans e2) L
def rdS (K : PySem.W.Frag) (gf : Str → Option Addr) (W : WX) (m : MS) : TS := fun D σ H => ∃ al be ρ st, SR K gf H al be st ∧ RS K gf H al be ρ σ ∧ PostO K gf be W H al D (m ρ st)
def SS (X : Cx) (gf : Str → Option Addr) (W : WX) (s : Stmt) (m : MS) : Prop := PS X s (rdS X.K gf W m)
def SSs (X : Cx) (gf : Str → Option Addr) (W : WX) (s : List Stmt) (m : MS) : Prop := PSs X s (rdS X.K gf W m)
/-- an expression, then more -/
def liftE {τ : Type} (m : M τ) (ρ : Lo) (k : τ → Sto → Option (Out × Sto)) : Sto → Option (Out × Sto) := fun st => match m st with
  | none => none
  | some (.ok t, st1) => k t st1
  | some (.exn c, st1) => some (.ex c ρ, st1)
theorem PostO.lift {τ : Type} {D : Ends} {m : M τ} {ρ : Lo} {k : τ → Sto → Option (Out × Sto)} {σ : St} (p : PostO K gf be W H al D (liftE m ρ k st)) (L : RS K gf H al be ρ σ) :
    Post K gf be (wx gf W σ) H al (m st) fun t st1 H1 al1 => PostO K gf be W H1 al1 D (k t st1) := by
  unfold liftE at p
  match h : m st with
  | none => rw [h] at p; exact p.elim
  | some (.ok t, st1) => rw [h] at p; exact fun H1 al1 S e => PostO.ext p e
  | some (.exn c, st1) => rw [h] at p; exact fun H1 al1 S e => p H1 al1 σ S e (L.ext e)

theorem ss_bad {s : Stmt} : SS X gf W s (fun _ _ => none) := ⟨fun _ _ _ _ _ _ ⟨_, _, _, _, _, _, p⟩ => p.elim⟩
def sSeq (a b : MS) : MS := fun ρ st => match a ρ st with
  | some (.nx ρ1, st1) => b ρ1 st1
  | r => r
def sNil : MS := fun ρ st => some (.nx ρ, st)
theorem sss_nil : SSs X gf W [] sNil := imSs pss_nil fun D σ H ⟨al, be, ρ, st, S, L, p⟩ => p H al σ S Ext.refl L
theorem sss_cons {s : Stmt} {ss : List Stmt} {a b : MS} (h1 : SS X gf W s a) (h2 : SSs X gf W ss b) : SSs X gf W (s :: ss) (sSeq a b) := by
  refine imSs (pss_cons h1 h2) fun D σ H ⟨al, be, ρ, st, S, L, p⟩ => ⟨al, be, ρ, st, S, L, ?_⟩
  unfold sSeq at p
  match h : a ρ st with
  | none => rw [h] at p; exact p
  | some (.nx ρ1, st1) => rw [h] at p; exact fun H1 al1 σ1 S1 e1 L1 => ⟨al1, be, ρ1, st1, S1, L1, PostO.ext p e1⟩
  | some (.bk ρ1, st1) => rw [h] at p; exact p
  | some (.ct ρ1, st1) => rw [h] at p; exact p
  | some (.rt d, st1) => rw [h] at p; exact p
  | some (.ex c ρ1, st1) => rw [h] at p; exact p
theorem ss_pass {pos : Pos} : SS X gf W (.Pass pos) sNil := imS ps_pass fun D σ H ⟨al, be, ρ, st, S, L, p⟩ => p H al σ S Ext.refl L
def sBreak : MS := fun ρ st => some (.bk ρ, st)
def sCont : MS := fun ρ st => some (.ct ρ, st)
theorem ss_break {pos : Pos} : SS X gf W (.Break pos) sBreak := imS ps_break fun D σ H ⟨al, be, ρ, st, S, L, p⟩ => p H al σ S Ext.refl L
theorem ss_cont {pos : Pos} : SS X gf W (.Continue pos) sCont := imS ps_continue fun D σ H ⟨al, be, ρ, st, S, L, p⟩ => p H al σ S Ext.refl L
variable {a b : Expr} {ma mb : Lo → M D} {pos : Pos}
def sExpr (m : Lo → M D) : MS := fun ρ => liftE (m ρ) ρ fun _ st => some (.nx ρ, st)
theorem ss_expr (ha : SE X gf W a ma) (hs : swapsWith a none pos.line X.env = pure false) : SS X gf W (.Expr a pos) (sExpr ma) := by
  refine imS (ps_expr ha hs) fun D σ H ⟨al, be, ρ, st, S, L, p⟩ => ⟨al, be, ρ, st, S, L, (PostO.lift p L).mono fun d st1 H1 al1 S1 e1 q v rv => ?_⟩
  exact q H1 al1 σ S1 Ext.refl (L.ext e1)
def sRet (m : Lo → M D) : MS := fun ρ => liftE (m ρ) ρ fun d st => some (.rt d, st)
theorem ss_ret (ha : SE X gf W a ma) : SS X gf W (.Return (some a) pos) (sRet ma) := by
  refine imS (ps_ret ha) fun D σ H ⟨al, be, ρ, st, S, L, p⟩ => ⟨al, be, ρ, st, S, L, (PostO.lift p L).mono fun d st1 H1 al1 S1 e1 q v rv => ?_⟩
  exact q H1 al1 v S1 Ext.refl rv
def sIf (c : Lo → M Bool) (a b : MS) : MS := fun ρ => liftE (c ρ) ρ fun k st => if k then a ρ st else b ρ st
theorem ss_if {c : Expr} {tc : Lo → M Bool} {sa sb : List Stmt} {na nb : MS} (hc : ST X gf W c tc) (ha : SSs X gf W sa na) (hb : SSs X gf W sb nb) : SS X gf W (.If c sa sb pos) (sIf tc na nb) := by
  refine imS (ps_if hc ha hb) fun D σ H ⟨al, be, ρ, st, S, L, p⟩ => ⟨al, be, ρ, st, S, L, (PostO.lift p L).mono fun k st1 H1 al1 S1 e1 q => ?_⟩
  cases k with
  | true => rw [if_pos rfl] at q ⊢; exact ⟨al1, be, ρ, st1, S1, L.ext e1, q⟩
  | false => rw [if_neg Bool.false_ne_true] at q ⊢; exact ⟨al1, be, ρ, st1, S1, L.ext e1, q⟩
/-- a target -/
def sAsg (t : Tg) (m : Lo → M D) : MS := fun ρ => liftE (m ρ) ρ fun d st => match bindT t d ρ with
  | some ρ1 => some (.nx ρ1, st)
  | none => none
theorem asg_of {t : Tg} {D : Ends} {σ : St} {H : Hp} (h : rdS K gf W (sAsg t ma) D σ H) : rdE K gf W ma σ H fun x H1 => gT K t x σ H1 D.nx := by
  obtain ⟨al, be, ρ, st, S, L, p⟩ := h
  refine ⟨al, be, ρ, st, S, L, (PostO.lift p L).mono fun d st1 H1 al1 S1 e1 q v rv => ?_⟩
  split at q
  · rename_i ρ1 hb
    exact bind_ok (L.ext e1) rv hb fun σ1 L1 _ => q H1 al1 σ1 S1 Ext.refl L1
  · exact q.elim
theorem ss_asg {tg : Expr} {t : Tg} (ha : SE X gf W a ma) (hg : SG X tg t) (hs : swapsWithSole [tg] a pos.line X.env = pure false) (hw : swappedStores [tg] a X.env = pure none)
    (h1 : (assignEach [tg] X.env).map (·.2) = [assign tg X.env]) : SS X gf W (.Assign [tg] a pos) (sAsg t ma) :=
  imS (ps_asg ha hg hs hw h1) fun D σ H h => asg_of h
/-- a, b = x, y -/
def sPar (i j : Nat) (ma mb : Lo → M D) : MS := fun ρ => liftE (M.bind (ma ρ) fun x => M.bind (mb ρ) fun y => M.pure (x, y)) ρ fun xy st => some (.nx ((ρ.set i (some xy.1)).set j (some xy.2)), st)
theorem ss_par {i j : Nat} {x y : Str} {px py pt : Pos} {kt k2 pt2} (hc : X.calm = true) (hN : X.N.Nodup) (hi : X.N[i]? = some x) (hj : X.N[j]? = some y) (hij : i ≠ j)
    (hx : X.env.scope.names.lookup x = some .local) (hy : X.env.scope.names.lookup y = some .local) (ha : SE X gf W a ma) (hb : SE X gf W b mb)
    (hw : swappedStores [.Tuple [.Name x px, .Name y py] kt pt] (.Tuple [a, b] k2 pt2) X.env = pure (some [x, y]))
    (hs : swapsWithSole [.Tuple [.Name x px, .Name y py] kt pt] (.Tuple [a, b] k2 pt2) pos.line X.env = pure false)
    (s1 : starEach [a, b] X.env = (false, eval a X.env) :: starEach [b] X.env) (s2 : starEach [b] X.env = (false, eval b X.env) :: starEach [] X.env) :
    SS X gf W (.Assign [.Tuple [.Name x px, .Name y py] kt pt] (.Tuple [a, b] k2 pt2) pos) (sPar i j ma mb) := by
  refine imS (ps_par hc hN hi hj hij hx hy (pa_cons ha (pa_cons hb pa_nil s2) s1) hw hs) fun D σ H ⟨al, be, ρ, st, S, L, p⟩ => ?_
  refine ⟨al, be, ρ, st, S, L, (PostO.lift p L).bind.mono fun d st1 H1 al1 S1 e1 q v rv => ?_⟩
  refine ⟨al1, be, ρ, st1, S1, L.ext e1, q.bind.mono fun d2 st2 H2 al2 S2 e2 q2 v2 rv2 => ?_⟩
  refine ⟨v, v2, rfl, ?_⟩
  exact (q2.ok S2) H2 al2 _ S2 Ext.refl ((((L.ext e1).ext e2).set (rv.ext e2)).set rv2)

/-! ### loops -/
open Classical in
noncomputable def loopF (src : Src) (t : Tg) (body : MS) : List D → MS
  | [] => fun ρ st => if src.ok st then some (.nx ρ, st) else none
  | d :: ds => fun ρ st => if src.ok st then (match bindT t d ρ with
    | none => none
    | some ρ1 => (match body ρ1 st with
      | some (.nx ρ2, st1) => loopF src t body ds ρ2 st1
      | some (.ct ρ2, st1) => loopF src t body ds ρ2 st1
      | some (.bk ρ2, st1) => some (.nx ρ2, st1)
      | r => r)) else none
noncomputable def sFor (t : Tg) (it : Lo → M Src) (body : MS) : MS := fun ρ => liftE (it ρ) ρ fun src st => loopF src t body src.items ρ st
theorem ss_for {tg iter : Expr} {t : Tg} {it : Lo → M Src} {bs : List Stmt} {body : MS} (hp : PassesOwn (model X.prog X.w) X.A X.env X.xe) (hc : X.calm = true) (hi : SI X gf W tg iter it) (hg : SG X tg t) (hb : SSs X gf W bs body)
    (hs : ∀ x, foldedSetIterable iter X.env x = pure x) : SS X gf W (.For tg iter bs [] pos) (sFor t it body) := by
  refine imS (ps_for hp hc hi hg hb hs) fun D σ H ⟨al, be, ρ, st, S, L, p⟩ => ?_
  refine ⟨al, be, ρ, st, S, L, (PostO.lift p L).mono fun src st1 H1 al1 S1 e1 q hsz J hJ => ?_⟩
  refine ⟨fun i mm σc Hc => ∃ alc ρc stc, i ≤ src.items.length ∧ mm = src.items.length - i ∧ SR X.K gf Hc alc be stc ∧ RS X.K gf Hc alc be ρc σc ∧ Ext X.K be H1 al1 Hc alc ∧ PostO X.K gf be W Hc alc D (loopF src t body (src.items.drop i) ρc stc),
    ⟨src.items.length, al1, ρ, st1, Nat.zero_le _, by simp, S1, L.ext e1, Ext.refl, by simpa using q⟩, ?_⟩
  rintro i mm σc Hc ⟨alc, ρc, stc, hi, rfl, Sc, Lc, ec, pc⟩
  by_cases hlt : i < src.items.length
  · right
    have hd : src.items[i]? = some src.items[i] := List.getElem?_eq_getElem hlt
    rw [List.drop_eq_getElem_cons hlt] at pc
    unfold loopF at pc
    split at pc
    · rename_i hok
      obtain ⟨hitem, _⟩ := hJ i be Hc alc stc ec.toGr Sc hok
      obtain ⟨hgo, hy⟩ := hitem _ hd
      split at pc
      · exact pc.elim
      · rename_i ρ1 hb1
        refine ⟨hgo, fun σ' H' => ∃ alc ρc stc, SR X.K gf H' alc be stc ∧ RS X.K gf H' alc be ρc σ' ∧ Ext X.K be H1 al1 H' alc ∧ PostO X.K gf be W H' alc D (loopF src t body (src.items.drop (i + 1)) ρc stc), ?_, ?_⟩
        · rintro σ' H' ⟨alc, ρc, stc, z⟩
          exact ⟨src.items.length - (i + 1), by omega, alc, ρc, stc, hlt, rfl, z⟩
        · intro x H2 hx
          obtain ⟨S2, e2, r2⟩ := hy x H2 hx
          refine bind_ok (Lc.ext e2) r2 hb1 fun σ1 L1 _ => ⟨alc, be, ρ1, stc, S2, L1, ?_⟩
          match hbd : body ρ1 stc with
          | none => rw [hbd] at pc; exact pc.elim
          | some (.nx ρ2, st2) => rw [hbd] at pc; exact fun H3 al3 σ3 S3 e3 L3 => ⟨al3, ρ2, st2, S3, L3, (ec.trans e2).trans e3, PostO.ext pc (e2.trans e3)⟩
          | some (.ct ρ2, st2) => rw [hbd] at pc; exact fun H3 al3 σ3 S3 e3 L3 => ⟨al3, ρ2, st2, S3, L3, (ec.trans e2).trans e3, PostO.ext pc (e2.trans e3)⟩
          | some (.bk ρ2, st2) => rw [hbd] at pc; exact fun H3 al3 σ3 S3 e3 L3 => pc H3 al3 σ3 S3 (e2.trans e3) L3
          | some (.rt d, st2) => rw [hbd] at pc; exact PostO.ext pc e2
          | some (.ex c ρ2, st2) => rw [hbd] at pc; exact PostO.ext pc e2
    · exact pc.elim
  · left
    have ei : i = src.items.length := by omega
    subst ei
    rw [List.drop_length] at pc
    unfold loopF at pc
    split at pc
    · rename_i hok
      obtain ⟨_, hstop⟩ := hJ src.items.length be Hc alc stc ec.toGr Sc hok
      exact ⟨hstop (Nat.le_refl _), pc Hc alc σc Sc Ext.refl Lc⟩
    · exact pc.elim
def loopW (c : Lo → M Bool) (body : MS) : Nat → MS
  | 0 => fun _ _ => none
  | n + 1 => fun ρ => liftE (c ρ) ρ fun k st => if k then (match body ρ st with
      | some (.nx ρ2, st1) => loopW c body n ρ2 st1
      | some (.ct ρ2, st1) => loopW c body n ρ2 st1
      | some (.bk ρ2, st1) => some (.nx ρ2, st1)
      | r => r) else some (.nx ρ, st)
def sWhile (n : Nat) (c : Lo → M Bool) (body : MS) : MS := loopW c body n
theorem ss_while {n : Nat} {c : Expr} {tc : Lo → M Bool} {bs : List Stmt} {body : MS} (hp : PassesOwn (model X.prog X.w) X.A X.env X.xe) (hc : ST X gf W c tc) (hb : SSs X gf W bs body) : SS X gf W (.While c bs [] pos) (sWhile n tc body) := by
  refine imS (ps_while hp hc hb) fun D σ H ⟨al, be, ρ, st, S, L, p⟩ => ?_
  refine ⟨fun mm σc Hc => ∃ alc ρc stc, SR X.K gf Hc alc be stc ∧ RS X.K gf Hc alc be ρc σc ∧ PostO X.K gf be W Hc alc D (loopW tc body mm ρc stc), ⟨n, al, ρ, st, S, L, p⟩, ?_⟩
  rintro mm σc Hc ⟨alc, ρc, stc, Sc, Lc, pc⟩
  cases mm with
  | zero => exact pc.elim
  | succ mm =>
    unfold loopW at pc
    refine ⟨alc, be, ρc, stc, Sc, Lc, (PostO.lift pc Lc).mono fun k st1 H1 al1 S1 e1 q => ?_⟩
    cases k with
    | false =>
      rw [if_neg Bool.false_ne_true] at q
      exact iteF (q H1 al1 σc S1 Ext.refl (Lc.ext e1))
    | true =>
      rw [if_pos rfl] at q
      refine iteT ⟨fun σ' H' => ∃ alc ρc stc, SR X.K gf H' alc be stc ∧ RS X.K gf H' alc be ρc σ' ∧ PostO X.K gf be W H' alc D (loopW tc body mm ρc stc), fun σ' H' z => ⟨mm, Nat.lt_succ_self _, z⟩, al1, be, ρc, st1, S1, Lc.ext e1, ?_⟩
      match hbd : body ρc st1 with
      | none => rw [hbd] at q; exact q.elim
      | some (.nx ρ2, st2) => rw [hbd] at q; exact fun H3 al3 σ3 S3 e3 L3 => ⟨al3, ρ2, st2, S3, L3, PostO.ext q e3⟩
      | some (.ct ρ2, st2) => rw [hbd] at q; exact fun H3 al3 σ3 S3 e3 L3 => ⟨al3, ρ2, st2, S3, L3, PostO.ext q e3⟩
      | some (.bk ρ2, st2) => rw [hbd] at q; exact fun H3 al3 σ3 S3 e3 L3 => q H3 al3 σ3 S3 e3 L3
      | some (.rt d, st2) => rw [hbd] at q; exact q
      | some (.ex c ρ2, st2) => rw [hbd] at q; exact q

/-! ### comprehensions as values, as assignments -/
def SC (X : Cx) (gf : Str → Option Addr) (W : WX) (cs : List Expr) (m : Lo → M Bool) : Prop := PTs X cs (rdT X.K gf W m)
theorem sc_nil : SC X gf W [] (fun _ => M.pure true) := ⟨fun pins s σ H Q I ⟨al, be, ρ, st, S, L, p⟩ => pts_nil.run pins s σ H Q I (p.ok S)⟩
theorem sc_one {c : Expr} {tc : Lo → M Bool} (h : ST X gf W c tc) : SC X gf W [c] tc := pts_one h
variable {elt tg iter : Expr} {ifs : List Expr} {scope : Scope} {own : List (Str × Nat)} {t : Tg} {it : Lo → M Src} {tc : Lo → M Bool} {me : Lo → M D} {m : Bool}
theorem s_lc (hc : X.calm = true) (hN : X.N.Nodup) (hi : SI X gf W tg iter it) (ok : BlkOk X.N X.env.scope scope own) (ht : ∀ i ∈ (match t with | .one i => [i] | .tup is => is), i ∈ own.map (·.2))
    (hg : ∀ (s : Shared) (H : Hp) (C : Addr) (cl : List (Str × Addr)) (fp : List Addr), SG (X.blk s H scope (compEnvC scope cl C X.env) fp) tg t)
    (hf : ∀ (s : Shared) (H : Hp) (C : Addr) (cl : List (Str × Addr)) (fp : List Addr), SC (X.blk s H scope (compEnvC scope cl C X.env) fp) gf W0 ifs tc)
    (he : ∀ (s : Shared) (H : Hp) (C : Addr) (cl : List (Str × Addr)) (fp : List Addr), SE (X.blk s H scope (compEnvC scope cl C X.env) fp) gf W0 elt me) (hs : ∀ x, foldedSetIterable iter X.env x = pure x) :
    SE X gf W (.ListComp elt [⟨tg, iter, ifs, 0⟩] scope pos) (mLc m t (own.map (·.2)) it tc me) :=
  imE (pe_lc (own := own) (wi := rdI X.K gf W it) (g := gT X.K t) (tt := rdT X.K gf W0 tc) (te := rdE X.K gf W0 me) hc hN hi ok hg hf he hs) fun σ H Q h => lc_of ht h
theorem ss_setLc {i : Nat} {y : Str} {py spos : Pos} (hc : X.calm = true) (hN : X.N.Nodup) (hy : X.N[i]? = some y) (hyl : X.env.scope.names.lookup y = some .local)
    (hsw : swapsWith (.ListComp elt [⟨tg, iter, ifs, 0⟩] scope pos) (some (.Name y py)) spos.line X.env = pure true) (hi : SI X gf W tg iter it) (ok : BlkOk X.N X.env.scope scope own) (ht : ∀ i ∈ (match t with | .one i => [i] | .tup is => is), i ∈ own.map (·.2))
    (hg : ∀ (s : Shared) (H : Hp) (C : Addr) (cl : List (Str × Addr)) (fp : List Addr), SG (X.blk s H scope (compEnvC scope cl C X.env) fp) tg t)
    (hf : ∀ (s : Shared) (H : Hp) (C : Addr) (cl : List (Str × Addr)) (fp : List Addr), SC (X.blk s H scope (compEnvC scope cl C X.env) fp) gf W0 ifs tc)
    (he : ∀ (s : Shared) (H : Hp) (C : Addr) (cl : List (Str × Addr)) (fp : List Addr), SE (X.blk s H scope (compEnvC scope cl C X.env) fp) gf W0 elt me) (hs : ∀ x, foldedSetIterable iter X.env x = pure x) :
    SS X gf W (.Assign [.Name y py] (.ListComp elt [⟨tg, iter, ifs, 0⟩] scope pos) spos) (sAsg (.one i) (mLc m t (own.map (·.2)) it tc me)) :=
  imS (ps_setLc (own := own) (wi := rdI X.K gf W it) (g := gT X.K t) (tt := rdT X.K gf W0 tc) (te := rdE X.K gf W0 me) hc hN hy hyl hsw hi ok hg hf he hs) fun D σ H h => lc_of ht (asg_of h)
end
end TB
set_option Elab.async false
set_option linter.all false
set_option maxRecDepth 100000
set_option maxHeartbeats 4000000
/-! TB7: calls of defs; a def's own run -/
namespace TB
open PySem PySem.Spec L2
open PyProof.Rows (envOfC)

/-! ### what is left behind a call -/
mutual
def D.rlt (n : Nat) : D → Bool
  | .tup l => D.rlts n l
  | .lst l => D.rlts n l
  | .ref i => decide (i < n)
  | .non => true
  | .bl _ => true
  | .int _ => true
  | .str _ => true
  | .fn _ => true
  | .scr _ => true
def D.rlts (n : Nat) : List D → Bool
  | [] => true
  | d :: l => D.rlt n d && D.rlts n l
end
def MO.rlt (n : Nat) : MO → Bool
  | .lst l => D.rlts n l
  | .dct kvs => D.rlts n (kvs.map (·.2))
  | .ins _ fs => D.rlts n (fs.map (·.2))
def frz (n : Nat) (st1 : Sto) : D → D
  | .ref i => if i < n then .ref i else (match st1[i]? with
    | some (.lst l) => .lst l
    | _ => .ref i)
  | d => d
def DropOk (st st1 : Sto) (d : D) : Prop := (frz st.length st1 d).rlt st.length = true ∧ (st1.take st.length = st ∨ ∀ o ∈ st1.take st.length, o.rlt st.length = true)
open Classical in
noncomputable def dropM (st : Sto) (r : Res D) (st1 : Sto) : Option (Res D × Sto) := match r with
  | .ok d => if DropOk st st1 d then some (.ok (frz st.length st1 d), st1.take st.length) else some (.ok d, st1)
  | .exn c => if DropOk st st1 .non then some (.exn c, st1.take st.length) else some (.exn c, st1)
section
variable {X : Cx} {gf : Str → Option Addr} {K : PySem.W.Frag} {H H1 : Hp} {al al1 be : List Addr} {st st1 : Sto} {d e : D} {v u : V} {l : List D} {W : WX}
mutual
theorem RV.blw : ∀ {d : D} {v : V}, RV K gf H al be d v → d.rlt al.length = true
  | _, _, .non => rfl
  | _, _, .bl b => rfl
  | _, _, .int i => rfl
  | _, _, .str h h' => rfl
  | _, _, .tup h hs z => by simp only [D.rlt]; exact RVs.blw hs
  | _, _, .lst h hs z => by simp only [D.rlt]; exact RVs.blw hs
  | _, _, .ref h => by simp only [D.rlt]; exact decide_eq_true (List.getElem?_eq_some_iff.mp h).1
  | _, _, .fn h => rfl
  | _, _, .scr h z => rfl
theorem RVs.blw : ∀ {ds : List D} {vs : List V}, RVs K gf H al be ds vs → D.rlts al.length ds = true
  | _, _, .nil => rfl
  | _, _, .cons h hs => by simp only [D.rlts, RV.blw h, RVs.blw hs]; rfl
end
theorem RPs.blw {ka : Type} : ∀ {ds : List (ka × D)} {vs : List (ka × V)}, RPs K gf H al be ds vs → D.rlts al.length (ds.map (·.2)) = true
  | _, _, .nil => rfl
  | _, _, .cons h hs => by simp only [List.map_cons, D.rlts, RV.blw h, RPs.blw hs]; rfl
theorem RO.blw {a : Addr} : ∀ {o : MO}, RO K gf H al be a o → o.rlt al.length = true
  | .lst ds, ⟨vs, q, r, z⟩ => r.blw
  | .dct kvs, ⟨ws, q, r, _⟩ => r.blw
  | .ins c fs, ⟨C, dx, gs, q, q1, q2, r⟩ => r.blw
mutual
theorem RV.cut' {de : List Addr} : ∀ {d : D} {v : V}, RV K gf H (al ++ de) be d v → d.rlt al.length = true → RV K gf H al be d v
  | _, _, .non, _ => .non
  | _, _, .bl b, _ => .bl b
  | _, _, .int i, _ => .int i
  | _, _, .str h h', _ => .str h h'
  | _, _, .tup h hs z, q => by simp only [D.rlt] at q; exact .tup h (RVs.cut' hs q) z
  | _, _, .lst h hs z, q => by simp only [D.rlt] at q; exact .lst ⟨h.1, fun m => h.2.1 (List.mem_append_left _ m), h.2.2⟩ (RVs.cut' hs q) z
  | _, _, .ref h, q => by
    simp only [D.rlt, decide_eq_true_eq] at q
    rw [List.getElem?_append_left q] at h
    exact .ref h
  | _, _, .fn h, _ => .fn h
  | _, _, .scr h z, _ => .scr h z
theorem RVs.cut' {de : List Addr} : ∀ {ds : List D} {vs : List V}, RVs K gf H (al ++ de) be ds vs → D.rlts al.length ds = true → RVs K gf H al be ds vs
  | _, _, .nil, _ => .nil
  | _, _, .cons h hs, q => by
    simp only [D.rlts, Bool.and_eq_true] at q
    exact .cons (RV.cut' h q.1) (RVs.cut' hs q.2)
end
theorem RPs.cut' {ka : Type} {de : List Addr} : ∀ {ds : List (ka × D)} {vs : List (ka × V)}, RPs K gf H (al ++ de) be ds vs → D.rlts al.length (ds.map (·.2)) = true → RPs K gf H al be ds vs
  | _, _, .nil, _ => .nil
  | _, _, .cons h hs, q => by
    simp only [List.map_cons, D.rlts, Bool.and_eq_true] at q
    exact .cons (RV.cut' h q.1) (RPs.cut' hs q.2)
theorem RO.cut' {a : Addr} {de : List Addr} : ∀ {o : MO}, RO K gf H (al ++ de) be a o → o.rlt al.length = true → RO K gf H al be a o
  | .lst ds, ⟨vs, q, r, z⟩, h => ⟨vs, q, r.cut' h, z⟩
  | .dct kvs, ⟨ws, q, r, z⟩, h => ⟨ws, q, r.cut' h, z⟩
  | .ins c fs, ⟨C, dx, gs, q, q1, q2, r⟩, h => ⟨C, dx, gs, q, q1, q2, r.cut' h⟩
theorem drop_ok (S : SR K gf H al be st) (e : Ext K be H al H1 al1) (S1 : SR K gf H1 al1 be st1) (h : DropOk st st1 d) :
    SR K gf H1 al be (st1.take st.length) ∧ Ext K be H al H1 al ∧ ∀ v, RV K gf H1 al1 be d v → RV K gf H1 al be (frz st.length st1 d) v := by
  obtain ⟨de, rfl⟩ := e.pre
  obtain ⟨h1, h2⟩ := h
  have len1 : st1.length = al.length + de.length := by rw [← S1.len]; simp
  have bl : ∀ (i : Nat) o, i < st.length → st1[i]? = some o → o.rlt al.length = true := by
    intro i o hi ho
    have hm : (st1.take st.length)[i]? = some o := by rw [List.getElem?_take_of_lt hi]; exact ho
    rcases h2 with h2 | h2
    · rw [h2] at hm
      obtain ⟨a, _, ro⟩ := S.at hm
      exact ro.blw
    · rw [S.len]
      exact h2 o (List.mem_of_getElem? hm)
  refine ⟨⟨?_, ?_, fun b hb q => S1.dis b hb (List.mem_append_left _ q), S1.res, fun i o a k1 k2 => ?_⟩, ⟨⟨⟨[], by simp⟩, e.tup, fun a xs q => ?_, e.scr⟩, e.res⟩, fun v r => ?_⟩
  · rw [List.length_take, len1, S.len]; omega
  · exact (List.nodup_append.mp S1.nd).1
  · have hi : i < al.length := (List.getElem?_eq_some_iff.mp k2).1
    rw [List.getElem?_take_of_lt (by rw [← S.len]; exact hi)] at k1
    have ro := S1.obj i o a k1 (by rw [List.getElem?_append_left hi]; exact k2)
    exact ro.cut' (bl i o (by rw [← S.len]; exact hi) k1)
  · obtain ⟨q1, q2, q3⟩ := e.frl a xs q
    exact ⟨q1, fun m => q2 (List.mem_append_left _ m), q3⟩
  · rw [← S.len] at h1 ⊢
    by_cases hd : ∃ i l, d = .ref i ∧ ¬ i < al.length ∧ st1[i]? = some (.lst l)
    · obtain ⟨i, l, rfl, hi, hl⟩ := hd
      have ef : frz al.length st1 (.ref i) = .lst l := by simp only [frz, if_neg hi, hl]
      rw [ef] at h1 ⊢
      obtain ⟨a, vs, rfl, ha, q1, r1, z1⟩ := r.lstRef S1 hl
      have nal : a ∉ al := fun hm => by
        obtain ⟨j, hj⟩ := List.mem_iff_getElem?.mp hm
        have hjl := (List.getElem?_eq_some_iff.mp hj).1
        have hj' : (al ++ de)[j]? = some a := by rw [List.getElem?_append_left hjl]; exact hj
        obtain ⟨x1, y1⟩ := List.getElem?_eq_some_iff.mp hj'
        obtain ⟨x2, y2⟩ := List.getElem?_eq_some_iff.mp ha
        have := (List.getElem_inj S1.nd).mp (y1.trans y2.symm)
        omega
      have nbe : a ∉ be := fun hm => S1.dis a hm (List.mem_of_getElem? ha)
      simp only [D.rlt] at h1
      exact .lst ⟨q1, nal, nbe⟩ (r1.cut' h1) z1
    · have ef : frz al.length st1 d = d := by
        unfold frz
        split
        · split
          · rfl
          · split
            · rename_i hi _ l hl
              exact (hd ⟨_, l, rfl, hi, hl⟩).elim
            · rfl
        · rfl
      rw [ef] at h1 ⊢
      exact r.cut' h1

/-! ### a def -/
noncomputable def fnRun (nl : Nat) (body : MS) (ds : List D) : M D := fun st => match body (ds.map some ++ List.replicate (nl - ds.length) none) st with
  | some (.nx _, st1) => dropM st (.ok .non) st1
  | some (.rt d, st1) => dropM st (.ok d) st1
  | some (.ex c _, st1) => dropM st (.exn c) st1
  | _ => none
def wE' (gf : Str → Option Addr) (E : XK) : Str → Hp → Prop := fun c H => ∃ C, gf c = some C ∧ E (.ref C) none H
/-- the promise of a def that does what g says -/
def spF (K : PySem.W.Frag) (gf : Str → Option Addr) (n : Nat) (g : List D → M D) : Sp := fun vs H Q E => vs.length = n ∧ ∃ al be st ds, SR K gf H al be st ∧ RVs K gf H al be ds vs ∧
  Post K gf be (wE' gf E) H al (g ds st) fun d _ H1 al1 => ∀ v, RV K gf H1 al1 be d v → Q v H1
theorem RVs.start {ds : List D} {vs : List V} {N : List Str} (r : RVs K gf H al be ds vs) : RS K gf H al be (ds.map some ++ List.replicate (N.length - ds.length) none) (start N vs) := by
  unfold L2.start
  refine ⟨by simp [r.length], fun i d h => ?_⟩
  by_cases hi : i < ds.length
  · rw [List.getElem?_append_left (by simpa using hi), List.getElem?_map] at h
    obtain ⟨x, h1, h2⟩ := Option.map_eq_some_iff.mp h
    cases h2
    obtain ⟨v, h3, h4⟩ := r.get h1
    refine ⟨v, ?_, h4⟩
    rw [List.getElem?_append_left (by simp [← r.length, hi]), List.getElem?_map, h3]; rfl
  · rw [List.getElem?_append_right (by simpa using hi), List.getElem?_replicate] at h
    split at h <;> cases h
theorem fn_sound {P : Program} {w : World} {mg : Str → Option Value} {base : Heap} {k : Nat} {f : Addr} {name qual : Str} {params : Arguments} {body : List Stmt} {scope : Scope} {dV kV doc pm cdv ct oc : Value} {an od : Option Addr}
    {osl : Array (Option Value)} {N ps : List Str} {m : MS} (lk : K.lookup f = some ⟨oc, od, .func (PySem.W.fnOf name qual params body scope dV kV doc pm an cdv ct), osl⟩) (hcd : PySem.W.codeIn K cdv qual = true) (S : FnScope N ps scope)
    (hb : ∀ (A : Around) (outer : List Env) (s : Shared) (H : Hp) (E : XK), Room k (A.deeper (envOfC qual scope s.heap.objs.size f cdv)) →
      SSs (cxOf (L2.CX P w) P w K mg base N qual scope f cdv A outer s H E) gf (fun cls d _ H => E cls d H) body m) :
    FnOk P w K mg base (L2.CX P w) (k + 1) f (PySem.W.fnOf name qual params body scope dV kV doc pm an cdv ct) ps (spF K gf ps.length (fnRun N.length m)) := by
  refine fn_of lk hcd S (fun vs H Q E h => h.1) fun A outer s H vs Q E hr h => ?_
  obtain ⟨hl, al, be, st, ds, Sr, rs, p⟩ := h
  refine ⟨_, hb A outer s H E hr, al, be, _, st, Sr, rs.start, ?_⟩
  unfold fnRun at p
  match hm : m (ds.map some ++ List.replicate (N.length - ds.length) none) st with
  | none => rw [hm] at p; exact p.elim
  | some (.bk ρ, st1) => rw [hm] at p; exact p.elim
  | some (.ct ρ, st1) => rw [hm] at p; exact p.elim
  | some (.nx ρ, st1) =>
    rw [hm] at p
    intro H1 al1 σ1 S1 e1 L1
    have p : Post K gf be (wE' gf E) H al (dropM st (.ok .non) st1) fun d _ H1 al1 => ∀ v, RV K gf H1 al1 be d v → Q v H1 := p
    simp only [dropM] at p
    split at p
    · rename_i hd
      obtain ⟨S2, e2, r2⟩ := drop_ok Sr e1 S1 hd
      exact p _ _ S2 e2 _ (r2 _ .non)
    · exact p _ _ S1 e1 _ .non
  | some (.rt d, st1) =>
    rw [hm] at p
    intro H1 al1 v S1 e1 rv
    have p : Post K gf be (wE' gf E) H al (dropM st (.ok d) st1) fun d _ H1 al1 => ∀ v, RV K gf H1 al1 be d v → Q v H1 := p
    simp only [dropM] at p
    split at p
    · rename_i hd
      obtain ⟨S2, e2, r2⟩ := drop_ok Sr e1 S1 hd
      exact p _ _ S2 e2 _ (r2 _ rv)
    · exact p _ _ S1 e1 _ rv
  | some (.ex c ρ, st1) =>
    rw [hm] at p
    intro H1 al1 σ1 S1 e1 L1
    have p : Post K gf be (wE' gf E) H al (dropM st (.exn c) st1) fun d _ H1 al1 => ∀ v, RV K gf H1 al1 be d v → Q v H1 := p
    simp only [dropM] at p
    split at p
    · rename_i hd
      obtain ⟨S2, e2, r2⟩ := drop_ok Sr e1 S1 hd
      exact p _ _ S2 e2
    · exact p _ _ S1 e1

/-! ### its calls -/
/-- the global def f does what g says, of n arguments -/
def FOk (X : Cx) (gf : Str → Option Addr) (k : Nat) (f : Str) (n : Nat) (g : List D → M D) : Prop :=
  ∃ a fd ps, ps.length = n ∧ X.mg f = some (.ref a) ∧ PySem.W.keepIn X.K (.ref a) = true ∧ Binds X.K fd ps [] ∧ FnOk X.prog X.w X.K X.mg X.base (L2.CX X.prog X.w) k a fd ps (spF X.K gf n g)
def mCall (n : Nat) (g : List D → M D) (mr : Lo → M (List D)) : Lo → M D := fun ρ => M.bind (mr ρ) fun ds => if ds.length = n then g ds else M.stuck
variable {a : Expr} {es : List Expr} {mr : Lo → M (List D)} {pos p : Pos}
theorem s_call {k n : Nat} {f : Str} {g : List D → M D} (F : FOk X gf k f n g) (hr : Room k X.A) (hg : Gl X f) (tk : Takes X W) (ha : SA X gf W (a :: es) mr) (hdb : (f == ("__debug__" : Str)) = false)
    (he : starEach (a :: es) X.env = (false, eval a X.env) :: starEach es X.env) (hpl : (backTo pos (starEach es X.env)).any (·.1) = false) : SE X gf W (.Call (.Name f p) (a :: es) [] pos) (mCall n g mr) := by
  obtain ⟨fa, fd, ps, hn, hm, hk, hb, F⟩ := F
  refine imE (pe_callS F hr hg hm hk hb (fun σ => passAt tk σ) ha hdb he hpl) fun σ H Q h => ?_
  obtain ⟨al, be, ρ, st, S, L, p⟩ := h
  refine ⟨al, be, ρ, st, S, L, p.bind.mono fun ds st1 H1 al1 S1 e1 q vs rvs => ?_⟩
  split at q
  · rename_i hl
    exact ⟨by rw [← rvs.length]; exact hl, al1, be, st1, ds, S1, rvs, q⟩
  · exact q.elim
end
end TB
set_option Elab.async false
set_option linter.all false
set_option maxRecDepth 100000
set_option maxHeartbeats 4000000
/-! TM: a tuple, once or not at all -/
namespace L2
open PySem PySem.Spec PyProof.Rows
theorem tuple_mul1 (l : Addr) (items : Array Value) (n : Nat) (dd : Option Addr) (sl : Array (Option Value)) (x : Int) (u : Tok) (c0 : (decide (x < -(2 ^ 63)) || decide (x ≥ 2 ^ 63)) = false) (c1 : (items.isEmpty || x == 1) = true) :
    Meets (Builtin.«tuple.__mul__» ⟨[.ref l, .int x u], []⟩) (fun _ R s => s.heap.get? l = some { cls := .type "tuple", dict := dd, data := .seq items n, slots := sl } ∧
      R (.ok (.ret (Value.ref l))) s) :=
  .of_wp fun prog w A R s h => by
    obtain ⟨hp, g, d, tk, os⟩ := s
    obtain ⟨hl, h⟩ := h
    have f1 := AutoSeq1.idx_int
    wp_walk using wpAny_loadPart' hl
    repeat (first
      | (refine wpAny_ite_false (decide_eq_false (by rw [c0]; exact Bool.false_ne_true)) ?_; wp_walk using wpAny_loadPart' hl)
      | (refine wpAny_ite_true (decide_eq_true c1) ?_; wp_walk using wpAny_loadPart' hl))
    exact ⟨_, rfl, h⟩
theorem tuple_mul0 (l : Addr) (items : Array Value) (n : Nat) (dd : Option Addr) (sl : Array (Option Value)) (x : Int) (u : Tok) (c0 : (decide (x < -(2 ^ 63)) || decide (x ≥ 2 ^ 63)) = false) (c1 : (items.isEmpty || x == 1) = false) (c2 : (decide (x ≤ 0) || items.isEmpty) = true) :
    Meets (Builtin.«tuple.__mul__» ⟨[.ref l, .int x u], []⟩) (fun _ R s => s.heap.get? l = some { cls := .type "tuple", dict := dd, data := .seq items n, slots := sl } ∧
      R (.ok (.ret (Value.ref s.heap.objs.size))) { s with heap := s.heap.push { cls := Value.type "tuple", data := Data.seq #[] }, toks := s.toks }) :=
  .of_wp fun prog w A R s h => by
    obtain ⟨hp, g, d, tk, os⟩ := s
    obtain ⟨hl, h⟩ := h
    have f1 := AutoSeq1.idx_int
    wp_walk using wpAny_loadPart' hl
    repeat (first
      | (refine wpAny_ite_false (decide_eq_false (by rw [c0]; exact Bool.false_ne_true)) ?_; wp_walk using wpAny_loadPart' hl)
      | (refine wpAny_ite_false (decide_eq_false (by rw [c1]; exact Bool.false_ne_true)) ?_; wp_walk using wpAny_loadPart' hl)
      | (refine wpAny_ite_true (decide_eq_true c2) ?_; wp_walk using wpAny_loadPart' hl))
    exact ⟨_, rfl, h⟩
end L2
set_option Elab.async false
set_option linter.all false
set_option maxRecDepth 100000
set_option maxHeartbeats 4000000
/-! TC: more of the language: a tuple or a list times an int, dicts that are written out, sums, three names at once -/
namespace L2
open PySem PySem.Spec PyProof.Rows
section
variable {X : Cx}
/-- a tuple times an int: once, or not at all -/
def rRepS (K : PySem.W.Frag) : R2 := fun x y H Q => ∃ l k xs, x = .ref l ∧ y = .int k ∧ SqT K H l xs ∧ -(2 ^ 63) ≤ k ∧ k < 2 ^ 63 ∧
  (((xs = [] ∨ k = 1) ∧ Q (.ref l) H) ∨ (xs ≠ [] ∧ k ≤ 0 ∧ ∀ p, H p = none → Q (.ref p) (upd H p (.tup []))))
theorem op_repS : OpR X (binaryOp .Mult) (rRepS X.K) := by
  intro pins s σ H x y v u Q I rx ry h
  obtain ⟨l, k, xs, rfl, rfl, hT, h1, h2, h⟩ := h
  cases rx
  obtain ⟨t, rfl⟩ := ry
  obtain ⟨its, r, ⟨⟨cls, dd, data, sl⟩, ho, hc, n, hd⟩, hs⟩ := I.tuple hT
  simp only at hc hd
  subst hc hd
  have hle : its.length = xs.length := r.length.symm
  have c0 : (decide (k < -(2 ^ 63)) || decide (k ≥ 2 ^ 63)) = false := by
    rw [decide_eq_false (by omega), decide_eq_false (by omega)] <;> rfl
  rcases h with ⟨h, q⟩ | ⟨hne, hk, q⟩
  · have c1 : (its.toArray.isEmpty || k == 1) = true := by
      rcases h with rfl | rfl
      · cases its with
        | nil => rfl
        | cons a b => simp at hle
      · simp
    refine wpAny_binaryOp_repeat_ref (T := "tuple") (U := "int") (by decide) ⟨_, ho, rfl⟩ (fun s' => typeIs_int s' k t) noFill_tuple_mul F.fills_int_mul F.slot_int_rmul repeat_tuple F.slot_int_index.lookup
      (call_meets F.slot_int_rmul (typeIs_int s k t) F.entry_int_rmul (F.args_int_rmul_2 _ _) (int_rmul_tuple k t l its.toArray n dd sl)
        ⟨ho, rfl, ⟨_, ho, rfl⟩, call_meets F.slot_tuple_mul ⟨_, ho, rfl⟩ F.entry_tuple_mul (F.args_tuple_mul_2 _ _) (tuple_mul1 l its.toArray n dd sl k t c0 c1) ⟨ho, ?_⟩⟩)
    exact ⟨.ref l, H, I, rfl, q⟩
  · have hi : its.toArray.isEmpty = false := by
      cases its with
      | nil => exact absurd (List.eq_nil_of_length_eq_zero hle.symm) hne
      | cons a b => rfl
    have c1 : (its.toArray.isEmpty || k == 1) = false := by
      rw [hi, Bool.false_or]
      exact beq_eq_false_iff_ne.mpr (by omega)
    have c2 : (decide (k ≤ 0) || its.toArray.isEmpty) = true := by
      rw [decide_eq_true hk]; rfl
    refine wpAny_binaryOp_repeat_ref (T := "tuple") (U := "int") (by decide) ⟨_, ho, rfl⟩ (fun s' => typeIs_int s' k t) noFill_tuple_mul F.fills_int_mul F.slot_int_rmul repeat_tuple F.slot_int_index.lookup
      (call_meets F.slot_int_rmul (typeIs_int s k t) F.entry_int_rmul (F.args_int_rmul_2 _ _) (int_rmul_tuple k t l its.toArray n dd sl)
        ⟨ho, rfl, ⟨_, ho, rfl⟩, call_meets F.slot_tuple_mul ⟨_, ho, rfl⟩ F.entry_tuple_mul (F.args_tuple_mul_2 _ _) (tuple_mul0 l its.toArray n dd sl k t c0 c1 c2) ⟨ho, ?_⟩⟩)
    refine ⟨.ref s.heap.objs.size, _, I.laid (t' := s.toks) (o := .tup []) (fun b ob q => Heap.get?_push_of_some _ q) (Nat.le_refl _) ?_, rfl, q _ (I.hok.fresh (Nat.le_refl _))⟩
    exact ⟨Nat.zero_le _, [], .nil, IsTup.new _ _⟩
end
end L2
namespace TB
open PySem PySem.Spec L2
section
variable {X : Cx} {gf : Str → Option Addr} {K : PySem.W.Frag} {H : Hp} {al be : List Addr} {st : Sto} {d e : D} {v u : V} {l : List D} {W : WX}
/-! ### times -/
def fMul (i j : Int) : Option Int := if (-(2 ^ 64) < i ∧ i < 2 ^ 64) ∨ (-(2 ^ 64) < j ∧ j < 2 ^ 64) then some (i * j) else none
/-- a product; a tuple or a list so many times -/
def opMul (m : Bool) : D → D → M D
  | .int i, .int j => M.look fun _ => (fMul i j).map .int
  | .tup l, .int k => fun st => if -(2 ^ 63) ≤ k ∧ k < 2 ^ 63 then (if l = [] ∨ k = 1 then some (.ok (.tup l), st) else if k ≤ 0 then some (.ok (.tup []), st) else if k ≤ 1000 ∧ l.length ≤ 1000 then some (.ok (.tup (List.replicate k.toNat l).flatten), st) else none) else none
  | d, .int k => fun st => match lstOf st d with
    | some l => if -(2 ^ 63) ≤ k ∧ k < 2 ^ 63 ∧ l.length * k.toNat ≤ sizeLine then mkL m (List.replicate k.toNat l).flatten st else none
    | none => none
  | _, _ => M.stuck
theorem os_mul {m : Bool} : OpS X gf (binaryOp .Mult) (opMul m) := by
  intro pins s σ H x y v u Q I rx ry h
  obtain ⟨al, be, st, d, e, W, S, rd, re, p⟩ := h
  unfold opMul at p
  split at p
  · cases rd.int_inv; cases re.int_inv
    obtain ⟨t, e1, q⟩ := p.look S
    obtain ⟨k, e2, rfl⟩ := Option.map_eq_some_iff.mp e1
    unfold fMul at e2
    split at e2
    · cases e2
      exact op_mul pins s σ H _ _ v u Q I rx ry ⟨_, _, rfl, rfl, by assumption, q _ (.int _)⟩
    · cases e2
  · cases re.int_inv
    obtain ⟨a, vs, rfl, q1, r1, z1⟩ := rd.tup_inv
    rename_i l k
    split at p
    · rename_i hk
      split at p
      · rename_i h
        refine op_repS pins s σ H _ _ v u Q I rx ry ⟨a, k, vs, rfl, rfl, q1, hk.1, hk.2, .inl ⟨?_, p.ok S _ rd⟩⟩
        rcases h with rfl | h
        · cases r1; exact .inl rfl
        · exact .inr h
      · rename_i h
        have hne : vs ≠ [] := fun z => by subst z; cases r1; exact h (.inl rfl)
        split at p
        · rename_i h0
          exact op_repS pins s σ H _ _ v u Q I rx ry ⟨a, k, vs, rfl, rfl, q1, hk.1, hk.2, .inr ⟨hne, h0, fun q hq => p _ _ (S.new hq) (Ext.new hq S) _ (.tup (.of upd_same) .nil (Nat.zero_le _))⟩⟩
        · rename_i h0
          split at p
          · rename_i h1
            have hk1 : k ≠ 1 := fun z => h (.inr z)
            refine op_repT pins s σ H _ _ v u Q I rx ry ⟨a, k, vs, rfl, rfl, q1, hne, by omega, h1.1, by rw [← r1.length]; exact h1.2, fun q hq => p _ _ (S.new hq) (Ext.new hq S) _ (.tup (.of upd_same) ((r1.rep _).ext (Ext.new hq S)) ?_)⟩
            rw [PyProof.Rows.lm_len_rep_flat, sizeLine_eq]
            have a1 : k.toNat * l.length ≤ 1000 * 1000 := Nat.mul_le_mul (by omega) h1.2
            omega
          · exact p.elim
    · exact p.elim
  · cases re.int_inv
    dsimp only at p
    split at p
    · rename_i l hl
      obtain ⟨a, vs, rfl, q1, r1, z1⟩ := rd.lstOf S hl
      split at p
      · rename_i h
        exact op_rep pins s σ H _ _ v u Q I rx ry ⟨a, _, vs, rfl, rfl, q1, h.1, h.2.1, by rw [← r1.length]; exact h.2.2, fun q hq => mkL_ok S (r1.rep _) hq p⟩
      · exact p.elim
    · exact p.elim
  · exact p.elim
/-! ### sums -/
def intsOf : List D → Option (List Int)
  | [] => some []
  | .int i :: l => (intsOf l).map (i :: ·)
  | _ :: _ => none
def gSum : List D → M D
  | [d] => M.look fun st => ((lstOf st d).bind intsOf).map fun ns => .int ns.sum
  | _ => M.stuck
theorem RVs.ints : ∀ {ds : List D} {vs : List V} {ns : List Int}, RVs K gf H al be ds vs → intsOf ds = some ns → vs = ns.map V.int
  | _, _, _, .nil, h => by cases h; rfl
  | _, _, _, .cons (d := d) h hs, e => by
    cases d <;> simp only [intsOf] at e <;> try (cases e; done)
    obtain ⟨ns, e1, rfl⟩ := Option.map_eq_some_iff.mp e
    cases h.int_inv
    rw [List.map_cons, RVs.ints hs e1]
theorem cs_sum (hc : X.calm = true) : CallS X gf (.builtin "sum") gSum := by
  intro pins s σ H vs us Q I r h
  obtain ⟨al, be, st, ds, W, S, rd, p⟩ := h
  unfold gSum at p
  split at p
  · obtain ⟨t, e1, q⟩ := p.look S
    obtain ⟨ns, e2, rfl⟩ := Option.map_eq_some_iff.mp e1
    obtain ⟨l, e3, e4⟩ := Option.bind_eq_some_iff.mp e2
    cases rd with
    | cons r1 t1 =>
      cases t1
      obtain ⟨a, ws, rfl, q1, r2, z1⟩ := r1.lstOf S e3
      have := r2.ints e4
      subst this
      exact cr_sum hc pins s σ H _ us Q I r ⟨a, ns, rfl, .of q1, q _ (.int _)⟩
  · exact p.elim
/-! ### dicts that are written out -/
def kE : Key → Expr → Bool
  | .inl i, .Constant (.int j) _ _ => decide (i = j)
  | .inr x, .Constant (.str y) _ _ => decide (x = y) && PyData.strOk x && decide (x.length ≤ sizeLine)
  | _, _ => false
theorem kE_of {k : Key} {e : Expr} (h : kE k e = true) : PE X e (fun _ H Q => Q (kV k) H) := by
  unfold kE at h
  split at h
  · cases of_decide_eq_true h; exact pe_int
  · simp only [Bool.and_eq_true] at h; cases of_decide_eq_true h.1.1; exact pe_str
  · cases h
theorem kE_ok {k : Key} {e : Expr} (h : kE k e = true) : keyOk k := by
  unfold kE at h
  split at h
  · trivial
  · simp only [Bool.and_eq_true] at h; exact ⟨h.1.2, of_decide_eq_true h.2⟩
  · cases h
theorem KsOk.put {kvs : List (Key × D)} {k : Key} {d : D} (h : KsOk kvs) (hk : keyOk k) : KsOk (putG kvs k d) := by
  intro kv hkv
  unfold putG at hkv
  split at hkv
  · obtain ⟨q, hq, rfl⟩ := List.mem_map.mp hkv
    split
    · exact h q hq
    · exact h q hq
  · rcases List.mem_append.mp hkv with z | z
    · exact h kv z
    · simp at z; subst z; exact hk
def mergeG (kvs more : List (Key × D)) : List (Key × D) := more.foldl (fun acc kv => putG acc kv.1 kv.2) kvs
theorem RPs.merge : ∀ {more : List (Key × D)} {ms : List (Key × V)}, RPs K gf H al be more ms → ∀ {kvs : List (Key × D)} {ws : List (Key × V)}, RPs K gf H al be kvs ws → RPs K gf H al be (mergeG kvs more) (mergeK ws ms)
  | _, _, .nil, _, _, h => h
  | _, _, .cons r t, _, _, h => RPs.merge t (h.put r)
theorem KsOk.merge : ∀ {more kvs : List (Key × D)}, KsOk more → KsOk kvs → KsOk (mergeG kvs more)
  | [], _, _, h => h
  | kv :: more, _, hm, h => KsOk.merge (more := more) (fun q hq => hm q (List.mem_cons_of_mem _ hq)) (h.put (hm kv List.mem_cons_self))
theorem KsOk.zip {ks : List Key} {ds : List D} (h : ∀ k ∈ ks, keyOk k) : KsOk (ks.zip ds) := fun kv hkv => h _ (List.of_mem_zip hkv).1
theorem RPs.zip : ∀ {ks : List Key} {ds : List D} {vs : List V}, RVs K gf H al be ds vs → RPs K gf H al be (ks.zip ds) (ks.zip vs)
  | [], _, _, _ => by rw [List.zip_nil_left, List.zip_nil_left]; exact .nil
  | _ :: _, _, _, .nil => .nil
  | _ :: _, _, _, .cons h hs => .cons h (RPs.zip hs)
/-- the values are read, then the dict is there -/
def mDsp (ks : List Key) (mr : Lo → M (List D)) : Lo → M D := fun ρ st => match mr ρ (st ++ [.dct []]) with
  | some (.ok ds, st2) => (match st2[st.length]? with
    | some (.dct []) => if ds.length = ks.length then some (.ok (.ref st.length), st2.set st.length (.dct (mergeG [] (ks.zip ds)))) else none
    | _ => none)
  | some (.exn c, st2) => some (.exn c, st2)
  | none => none
def dTrs (K : PySem.W.Frag) (gf : Str → Option Addr) (W : WX) : List Key → List (Lo → M D) → List (TE × TE)
  | k :: ks, m :: ms => (fun _ H Q => Q (kV k) H, rdE K gf W m) :: dTrs K gf W ks ms
  | _, _ => []
def aAll : List (Lo → M D) → Lo → M (List D)
  | [] => aNil
  | m :: ms => aCons m (aAll ms)
theorem pairs_ok : ∀ (ks : List Key) (ms : List (Lo → M D)) {σ : St} {H : Hp} {al be : List Addr} {ρ : Lo} {st : Sto} {Q : List (V × V) → Hp → Prop}, ks.length = ms.length → SR K gf H al be st → RS K gf H al be ρ σ →
    Post K gf be (wx gf W σ) H al (aAll ms ρ st) (fun ds _ H1 al1 => ∀ vs, RVs K gf H1 al1 be ds vs → Q ((ks.zip vs).map fun kv => (kV kv.1, kv.2)) H1) → tPairs (dTrs K gf W ks ms) σ H Q
  | [], [], σ, H, al, be, ρ, st, Q, hl, S, L, p => p.ok S [] .nil
  | [], _ :: _, _, _, _, _, _, _, _, hl, _, _, _ => by cases hl
  | _ :: _, [], _, _, _, _, _, _, _, hl, _, _, _ => by cases hl
  | k :: ks, m :: ms, σ, H, al, be, ρ, st, Q, hl, S, L, p => by
    refine ⟨al, be, ρ, st, S, L, p.bind.mono fun d st1 H1 al1 S1 e1 p1 v rv => ?_⟩
    refine pairs_ok ks ms (by simpa using hl) S1 (L.ext e1) (p1.bind.mono fun l st2 H2 al2 S2 e2 p2 vs rvs => ?_)
    exact p2.ok S2 (v :: vs) (.cons (rv.ext e2) rvs)
theorem s_dsp {ks : List Key} {ms : List (Lo → M D)} {keys : List (Option Expr)} {values : List Expr} {pos : Pos} (h : PPs X pos keys values (dTrs X.K gf W ks ms)) (hall : keys.all (·.isSome) = true) (hl : keys.length = values.length) (h0 : keys ≠ []) (h15 : keys.length ≤ 15)
    (hk : ks.length = ms.length) (hk2 : ks.length = keys.length) (hko : ∀ k ∈ ks, keyOk k) : SE X gf W (.Dict keys values pos) (mDsp ks (aAll ms)) := by
  refine imE (pe_disp h hall hl h0 h15) fun σ H Q h => ?_
  obtain ⟨al, be, ρ, st, S, L, p⟩ := h
  intro q hq
  have e0 := Ext.push (o := .dK []) hq S
  have S0 := S.push (o := .dK []) (mo := .dct []) hq ⟨[], upd_same, .nil, fun _ h => by cases h⟩
  refine pairs_ok ks ms hk S0 (L.ext e0) ?_
  unfold mDsp at p
  generalize aAll ms ρ (st ++ [.dct []]) = r at p ⊢
  revert p
  rcases r with _ | ⟨⟨ds⟩ | ⟨c⟩, st2⟩
  · exact fun p => p
  · intro p H1 al1 S1 e1 vs rvs
    dsimp only at p
    split at p
    · rename_i hst
      split at p
      · rename_i hds
        obtain ⟨a, ha, ws, hH, rp, _⟩ := S1.at hst
        cases rp
        have hp : al1[st.length]? = some q := by
          obtain ⟨z, hz⟩ := e1.toGr.1
          rw [hz, List.getElem?_append_left (by simp [S.len]), ← S.len, List.getElem?_append_right (Nat.le_refl _)]
          simp
        rw [hp] at ha
        cases ha
        refine ⟨hH, ks.zip vs, rfl, ?_, ?_⟩
        · rw [List.length_zip, ← rvs.length, hds]; omega
        · have e2 := Ext.write (o := .dK (mergeK [] (ks.zip vs))) S1 hp
          refine p _ _ (S1.write hp ⟨_, upd_same, (RPs.merge (RPs.zip rvs) .nil).ext e2, KsOk.merge (KsOk.zip hko) (fun _ h => by cases h)⟩) ((e0.trans e1).trans e2) _ (.ref hp)
      · exact p.elim
    · exact p.elim
  · exact fun p H1 al1 S1 e1 => p H1 al1 S1 (e0.trans e1)
def mDnew : Lo → M D := fun _ st => some (.ok (.ref st.length), st ++ [.dct []])
theorem s_dnew {pos : Pos} : SE X gf W (.Dict [] [] pos) mDnew := by
  refine imE pe_dnewK fun σ H Q h => ?_
  obtain ⟨al, be, ρ, st, S, L, p⟩ := h
  intro q hq
  have e0 := Ext.push (o := .dK []) hq S
  refine p _ _ (S.push (o := .dK []) (mo := .dct []) hq ⟨[], upd_same, .nil, fun _ h => by cases h⟩) e0 _ (.ref ?_)
  rw [← S.len, List.getElem?_append_right (Nat.le_refl _)]
  simp
/-! ### three names at once -/
def sPar3 (i j l : Nat) (ma mb mc : Lo → M D) : MS := fun ρ => liftE (M.bind (ma ρ) fun x => M.bind (mb ρ) fun y => M.bind (mc ρ) fun z => M.pure (x, y, z)) ρ fun xy st => some (.nx (((ρ.set i (some xy.1)).set j (some xy.2.1)).set l (some xy.2.2)), st)
theorem ss_par3 {i j l : Nat} {x y z : Str} {a b c : Expr} {ma mb mc : Lo → M D} {px py pz pt pos : Pos} {kt k2 pt2} (hc : X.calm = true) (hN : X.N.Nodup) (hi : X.N[i]? = some x) (hj : X.N[j]? = some y) (hl : X.N[l]? = some z) (hij : i ≠ j) (hil : i ≠ l) (hjl : j ≠ l)
    (hx : X.env.scope.names.lookup x = some .local) (hy : X.env.scope.names.lookup y = some .local) (hz : X.env.scope.names.lookup z = some .local) (ha : SE X gf W a ma) (hb : SE X gf W b mb) (hcc : SE X gf W c mc)
    (hw : swappedStores [.Tuple [.Name x px, .Name y py, .Name z pz] kt pt] (.Tuple [a, b, c] k2 pt2) X.env = pure (some [x, y, z]))
    (hs : swapsWithSole [.Tuple [.Name x px, .Name y py, .Name z pz] kt pt] (.Tuple [a, b, c] k2 pt2) pos.line X.env = pure false)
    (s1 : starEach [a, b, c] X.env = (false, eval a X.env) :: starEach [b, c] X.env) (s2 : starEach [b, c] X.env = (false, eval b X.env) :: starEach [c] X.env) (s3 : starEach [c] X.env = (false, eval c X.env) :: starEach [] X.env) :
    SS X gf W (.Assign [.Tuple [.Name x px, .Name y py, .Name z pz] kt pt] (.Tuple [a, b, c] k2 pt2) pos) (sPar3 i j l ma mb mc) := by
  refine imS (ps_par3 hc hN hi hj hl hij hil hjl hx hy hz (pa_cons ha (pa_cons hb (pa_cons hcc pa_nil s3) s2) s1) hw hs) fun D σ H ⟨al, be, ρ, st, S, L, p⟩ => ?_
  refine ⟨al, be, ρ, st, S, L, (PostO.lift p L).bind.mono fun d st1 H1 al1 S1 e1 q v rv => ?_⟩
  refine ⟨al1, be, ρ, st1, S1, L.ext e1, q.bind.mono fun d2 st2 H2 al2 S2 e2 q2 v2 rv2 => ?_⟩
  refine ⟨al2, be, ρ, st2, S2, (L.ext e1).ext e2, q2.bind.mono fun d3 st3 H3 al3 S3 e3 q3 v3 rv3 => ?_⟩
  refine ⟨v, v2, v3, rfl, ?_⟩
  exact (q3.ok S3) H3 al3 _ S3 Ext.refl ((((((L.ext e1).ext e2).ext e3).set ((rv.ext e2).ext e3)).set (rv2.ext e3)).set rv3)
end
end TB
set_option Elab.async false
set_option linter.all false
set_option maxRecDepth 100000
set_option maxHeartbeats 4000000
/-! TB8: the small language, what it does, and the look that finds it in the text -/
namespace TB
open PySem PySem.Spec L2

inductive Blt where
  | len | all | any | tuple | list (m : Bool) | int | str | sum
inductive Bm where
  | append | extend | pop
inductive Bop where
  | add (m : Bool) | sub | mod | div | mul (m : Bool)
inductive Ty where
  | str | int | bool | tuple | list
mutual
inductive E where
  | bad | var (i : Nat) | non | bl (b : Bool) | int (i : Int) | str (x : Str) | glob (x : Str)
  | band (es : Es) | bor (es : Es) | not (a : E)
  | bin (op : Bop) (a b : E) | neg (a : E) | cmp (op : CmpOp) (a b : E) | chain (o1 o2 : CmpOp) (a b c : E) | ite (c a b : E)
  | tup (es : Es) | lst (m : Bool) (es : Es)
  | call (f : Str) (n : Nat) (es : Es) | blt (f : Blt) (a : E) | isi (T : Ty) (a : E) | bm (f : Bm) (o : E) (es : Es)
  | idx (o i : E) | slc (m : Bool) (o : E) (lo hi : Eo) | rev (m : Bool) (o : E)
  | lc (m : Bool) (own : List (Str × Nat)) (t : Tg) (it : It) (c : Eo) (e : E)
  | dsp (ks : List Key) (es : Es) | dnew
inductive Es where
  | nil | cons (e : E) (es : Es)
inductive Eo where
  | none | some (e : E)
inductive It where
  | seq (e : E) | rng1 (e : E) | zip (a b : E)
end
mutual
inductive S where
  | bad | pass | brk | cont | expr (e : E) | ret (e : E) | asg (t : Tg) (e : E) | par (i j : Nat) (a b : E) | par3 (i j l : Nat) (a b c : E)
  | ife (c : E) (a b : Ss) | for_ (t : Tg) (it : It) (b : Ss) | whl (n : Nat) (c : E) (b : Ss)
inductive Ss where
  | nil | cons (s : S) (ss : Ss)
end

/-! ### what it does -/
def Bop.g : Bop → D → D → M D
  | .add m => opAdd m
  | .sub => opI fSub
  | .mod => opI fMod
  | .div => opI fDiv
  | .mul m => opMul m
def cmpG : CmpOp → D → D → M D
  | .Eq => opEq
  | .NotEq => opNe
  | .Lt => opLt
  | .LtE => opLe
  | .Gt => opGt
  | .GtE => opGe
  | .Is => opIs
  | .IsNot => opIsNot
  | .In => opIn
  | .NotIn => opNotIn
def Blt.g : Blt → List D → M D
  | .len => gLen
  | .all => gAll
  | .any => gAny
  | .tuple => gTuple
  | .list m => gList m
  | .int => gInt
  | .str => gStr
  | .sum => gSum
def Bm.g : Bm → D → List D → M D
  | .append => gAppend
  | .extend => gExtend
  | .pop => gPop
def Bm.T : Bm → BT
  | .append => .list
  | .extend => .list
  | .pop => .list
def Ty.nm : Ty → String
  | .str => "str"
  | .int => "int"
  | .bool => "bool"
  | .tuple => "tuple"
  | .list => "list"

section
variable (cf : Str → List D → M D) (gc : Str → Option D)
mutual
noncomputable def ev : E → Lo → M D
  | .bad => fun _ => M.stuck
  | .var i => mVar i
  | .non => mC .non
  | .bl b => mC (.bl b)
  | .int i => mC (.int i)
  | .str x => mC (.str x)
  | .glob x => fun _ => M.look fun _ => gc x
  | .band es => evAnd es
  | .bor es => evOr es
  | .not a => mNot (ev a)
  | .bin op a b => mOp op.g (ev a) (ev b)
  | .neg a => mNeg (ev a)
  | .cmp op a b => mOp (cmpG op) (ev a) (ev b)
  | .chain o1 o2 a b c => mChain (cmpG o1) (cmpG o2) (ev a) (ev b) (ev c)
  | .ite c a b => mIte (tst c) (ev a) (ev b)
  | .tup es => mTup (evs es)
  | .lst m es => mLst m (evs es)
  | .call f n es => mCall n (cf f) (evs es)
  | .blt f a => mApp f.g (aCons (ev a) aNil)
  | .isi T a => mIsi T.nm (ev a)
  | .bm f o es => mBM f.T f.g (ev o) (evs es)
  | .idx o i => mOp opIdx (ev o) (ev i)
  | .slc m o lo hi => mSlc m (ev o) (evo lo) (evo hi)
  | .rev m o => mRev m (ev o)
  | .lc m own t it c e => mLc m t (own.map (·.2)) (evi it) (evc c) (ev e)
  | .dsp ks es => mDsp ks (evs es)
  | .dnew => mDnew
noncomputable def tst : E → Lo → M Bool
  | .not a => tNotM (tst a)
  | .band es => tstAnd es
  | .bor es => tstOr es
  | .cmp op a b => mB (mOp (cmpG op) (ev a) (ev b))
  | .chain o1 o2 a b c => mB (mChain (cmpG o1) (cmpG o2) (ev a) (ev b) (ev c))
  | .ite _ _ _ => fun _ => M.stuck
  | .bad => fun _ => M.stuck
  | .var i => mTru (mVar i)
  | .non => mTru (mC .non)
  | .bl b => mTru (mC (.bl b))
  | .int i => mTru (mC (.int i))
  | .str x => mTru (mC (.str x))
  | .glob x => mTru (fun _ => M.look fun _ => gc x)
  | .bin op a b => mTru (mOp op.g (ev a) (ev b))
  | .neg a => mTru (mNeg (ev a))
  | .tup es => mTru (mTup (evs es))
  | .lst m es => mTru (mLst m (evs es))
  | .call f n es => mTru (mCall n (cf f) (evs es))
  | .blt f a => mTru (mApp f.g (aCons (ev a) aNil))
  | .isi T a => mTru (mIsi T.nm (ev a))
  | .bm f o es => mTru (mBM f.T f.g (ev o) (evs es))
  | .idx o i => mTru (mOp opIdx (ev o) (ev i))
  | .slc m o lo hi => mTru (mSlc m (ev o) (evo lo) (evo hi))
  | .rev m o => mTru (mRev m (ev o))
  | .lc m own t it c e => mTru (mLc m t (own.map (·.2)) (evi it) (evc c) (ev e))
  | .dsp ks es => mTru (mDsp ks (evs es))
  | .dnew => mTru mDnew
noncomputable def evs : Es → Lo → M (List D)
  | .nil => aNil
  | .cons e es => aCons (ev e) (evs es)
noncomputable def evAnd : Es → Lo → M D
  | .nil => fun _ => M.stuck
  | .cons e .nil => ev e
  | .cons e es => mAnd (ev e) (evAnd es)
noncomputable def evOr : Es → Lo → M D
  | .nil => fun _ => M.stuck
  | .cons e .nil => ev e
  | .cons e es => mOr (ev e) (evOr es)
noncomputable def tstAnd : Es → Lo → M Bool
  | .nil => fun _ => M.stuck
  | .cons e .nil => tst e
  | .cons e es => tAndM (tst e) (tstAnd es)
noncomputable def tstOr : Es → Lo → M Bool
  | .nil => fun _ => M.stuck
  | .cons e .nil => tst e
  | .cons e es => tOrM (tst e) (tstOr es)
noncomputable def evo : Eo → Lo → M (Option Int)
  | .none => oNone
  | .some e => oSome (ev e)
noncomputable def evc : Eo → Lo → M Bool
  | .none => fun _ => M.pure true
  | .some e => tst e
noncomputable def evi : It → Lo → M Src
  | .seq e => iSeq (ev e)
  | .rng1 e => TB.iRng1 (ev e)
  | .zip a b => iZip (aCons (ev a) (aCons (ev b) aNil))
end
mutual
noncomputable def exS : S → MS
  | .bad => fun _ _ => none
  | .pass => sNil
  | .brk => sBreak
  | .cont => sCont
  | .expr e => sExpr (ev cf gc e)
  | .ret e => sRet (ev cf gc e)
  | .asg t e => sAsg t (ev cf gc e)
  | .par i j a b => sPar i j (ev cf gc a) (ev cf gc b)
  | .par3 i j l a b c => sPar3 i j l (ev cf gc a) (ev cf gc b) (ev cf gc c)
  | .ife c a b => sIf (tst cf gc c) (exSs a) (exSs b)
  | .for_ t it b => sFor t (evi cf gc it) (exSs b)
  | .whl n c b => sWhile n (tst cf gc c) (exSs b)
noncomputable def exSs : Ss → MS
  | .nil => sNil
  | .cons s ss => sSeq (exS s) (exSs ss)
end
end

/-! ### the look -/
structure Ck where
  N : List Str
  fns : List (Str × Nat)
  free : List Str
  con : List Str
  sc : Scope
  top : Bool
def notStar : Expr → Bool
  | .Starred _ _ => false
  | _ => true
def notComp : Expr → Bool
  | .ListComp _ _ _ _ => false
  | .SetComp _ _ _ _ => false
  | .DictComp _ _ _ _ _ => false
  | _ => true
def notSet : Expr → Bool
  | .Set _ _ _ => false
  | _ => true
def notSlice : Expr → Bool
  | .Slice _ _ _ _ => false
  | _ => true
def notSuper : Expr → Bool
  | .Call (.Name _ _) [] [] _ => false
  | _ => true
def kindB (sc : Scope) (x : Str) (k : NameKind) : Bool := decide (sc.names.lookup x = some k)
def okName (x : Str) : Bool := !(x == ("__debug__" : Str)) && !(x == ("__classdict__" : Str)) && decide (x ≠ "__name__")
def visB (sc : Scope) (x : Str) : Bool := kindB sc x .local || kindB sc x .cell || kindB sc x .free
def Ck.glob (c : Ck) (x : Str) : Bool := kindB c.sc x .globalImplicit && okName x
def Ck.blt (c : Ck) (x : Str) : Bool := c.glob x && decide (x ∈ c.free)
def locB (c : Ck) (x : Str) : Bool := kindB c.sc x .local || (c.top && kindB c.sc x .cell)
def Blt.name : Blt → Str
  | .len => "len"
  | .all => "all"
  | .any => "any"
  | .tuple => "tuple"
  | .list _ => "list"
  | .int => "int"
  | .str => "str"
  | .sum => "sum"
def Bm.name : Bm → Str
  | .append => "append"
  | .extend => "extend"
  | .pop => "pop"
def Ty.name : Ty → Str
  | .str => "str"
  | .int => "int"
  | .bool => "bool"
  | .tuple => "tuple"
  | .list => "list"
def Bop.op : Bop → Operator
  | .add _ => .Add
  | .sub => .Sub
  | .mod => .Mod
  | .div => .FloorDiv
  | .mul _ => .Mult
def namesB (c : Ck) : List Expr → List Nat → Bool
  | [], [] => true
  | .Name x _ :: es, i :: is => decide (c.N[i]? = some x) && locB c x && namesB c es is
  | _, _ => false
def tgB (c : Ck) : Tg → Expr → Bool
  | .one i, .Name x _ => decide (c.N[i]? = some x) && locB c x
  | .tup is, .Tuple es _ _ => namesB c es is
  | _, _ => false
def tgSlots : Tg → List Nat
  | .one i => [i]
  | .tup is => is
def isRevS : Expr → Bool
  | .Slice none none (some (.UnaryOp .USub (.Constant (.int i) _ _) _)) _ => decide (i = 1)
  | _ => false
theorem isRevS_of {s : Expr} (h : isRevS s = true) : ∃ k p1 p2 p3, s = .Slice none none (some (.UnaryOp .USub (.Constant (.int 1) k p1) p2)) p3 := by
  unfold isRevS at h
  split at h
  · cases of_decide_eq_true h; exact ⟨_, _, _, _, rfl⟩
  · cases h
mutual
def ckE (c : Ck) : E → Expr → Bool
  | .bad, e => notStar e
  | .var i, .Name x _ => decide (c.N[i]? = some x) && visB c.sc x && okName x
  | .non, .Constant .none _ _ => true
  | .bl b, .Constant (.bool b') _ _ => b == b'
  | .int i, .Constant (.int j) _ _ => decide (i = j)
  | .str x, .Constant (.str y) _ _ => decide (x = y) && PyData.strOk x && decide (x.length ≤ sizeLine)
  | .glob x, .Name y _ => decide (x = y) && c.glob x && decide (x ∈ c.con)
  | .band es, .BoolOp .And vs _ => ckEs c es vs && !vs.isEmpty
  | .bor es, .BoolOp .Or vs _ => ckEs c es vs && !vs.isEmpty
  | .not a, .UnaryOp .Not e _ => ckE c a e
  | .bin op a b, .BinOp l op' r _ => decide (op.op = op') && ckE c a l && ckE c b r
  | .neg a, .UnaryOp .USub e _ => ckE c a e
  | .cmp op a b, .Compare l [op'] [r] _ => decide (op = op') && ckE c a l && ckE c b r && notSet r
  | .chain o1 o2 a b d, .Compare l [p1, p2] [r, r2] _ => decide (o1 = p1) && decide (o2 = p2) && ckE c a l && ckE c b r && ckE c d r2 && notSet r2
  | .ite q a b, .IfExp e1 e2 e3 _ => ckE c q e1 && ckE c a e2 && ckE c b e3
  | .tup es, .Tuple vs _ _ => ckEs c es vs
  | .lst _ es, .List vs _ => ckEs c es vs
  | .call f n es, .Call (.Name x _) (v :: vs) [] _ => decide (f = x) && c.glob x && decide ((f, n) ∈ c.fns) && ckEs c es (v :: vs)
  | .blt f a, .Call (.Name x _) [v] [] _ => decide (f.name = x) && c.blt x && ckE c a v
  | .isi T a, .Call (.Name x _) [v, .Name t _] [] _ => decide (x = ("isinstance" : Str)) && c.blt x && decide (T.name = t) && c.blt t && ckE c a v
  | .bm f o es, .Call (.Attribute e m ap) vs [] cp => decide (f.name = m) && (ap.endLine == cp.line) && notSuper e && decide (vs.length < 20) && ckE c o e && ckEs c es vs
  | .idx o i, .Subscript e s _ => notSlice s && ckE c o e && ckE c i s
  | .slc _ o lo hi, .Subscript e (.Slice l h none _) _ => ckE c o e && ckO c lo l && ckO c hi h
  | .rev _ o, .Subscript e s _ => isRevS s && ckE c o e
  | .lc _ own t it cd el, .ListComp e [⟨tg, iter, ifs, as⟩] scope _ => decide (as = 0) && blkC c.N c.sc scope own && (tgSlots t).all (fun i => decide (i ∈ own.map (·.2))) && notSet iter && ckI c it tg iter &&
      tgB { c with sc := relS scope c.sc, top := false } t tg && ckC { c with sc := relS scope c.sc, top := false } cd ifs && ckE { c with sc := relS scope c.sc, top := false } el e
  | .dsp ks es, .Dict keys vals _ => ckPs c es ks keys vals && !keys.isEmpty && decide (keys.length ≤ 15)
  | .dnew, .Dict keys vals _ => keys.isEmpty && vals.isEmpty
  | _, _ => false
def ckPs (c : Ck) : Es → List Key → List (Option Expr) → List Expr → Bool
  | .nil, [], [], [] => true
  | .cons e es, k :: ks, some ke :: keys, v :: vs => kE k ke && ckE c e v && ckPs c es ks keys vs
  | _, _, _, _ => false
def ckEs (c : Ck) : Es → List Expr → Bool
  | .nil, [] => true
  | .cons e es, v :: vs => ckE c e v && notStar v && ckEs c es vs
  | _, _ => false
def ckO (c : Ck) : Eo → Option Expr → Bool
  | .none, none => true
  | .some e, some v => ckE c e v
  | _, _ => false
def ckC (c : Ck) : Eo → List Expr → Bool
  | .none, [] => true
  | .some e, [v] => ckE c e v
  | _, _ => false
def ckI (c : Ck) : It → Expr → Expr → Bool
  | .seq e, _, v => ckE c e v
  | .rng1 e, _, .Call (.Name x _) [v] [] _ => decide (x = ("range" : Str)) && c.blt x && ckE c e v && notStar v
  | .zip a b, .Tuple _ _ _, .Call (.Name x _) [v, w] [] _ => decide (x = ("zip" : Str)) && c.blt x && ckE c a v && ckE c b w && notStar v && notStar w
  | _, _, _ => false
end
end TB
set_option Elab.async false
set_option linter.all false
set_option maxRecDepth 100000
set_option maxHeartbeats 4000000
/-! TB9: what the look finds does what the small language says: expressions -/
namespace TB
open PySem PySem.Spec L2

structure Ok (c : Ck) (X : Cx) (gf : Str → Option Addr) (W : WX) (k : Nat) (cf : Str → List D → M D) (gc : Str → Option D) : Prop where
  nN : X.N = c.N
  nd : c.N.Nodup
  sc : X.env.scope = c.sc
  calm : X.calm = true
  room : Room k X.A
  tk : Takes X W
  own : PassesOwn (model X.prog X.w) X.A X.env X.xe
  free : ∀ x, x ∈ c.free → X.mg x = none
  fns : ∀ f n, (f, n) ∈ c.fns → FOk X gf k f n (cf f)
  con : ∀ x, x ∈ c.con → ∀ d, gc x = some d → ∃ v u, X.mg x = some u ∧ RelV v u ∧ ∀ H al be, RV X.K gf H al be d v
  fnt : c.top = true → ∀ x, X.fn x = true

theorem band {a b : Bool} (h : (a && b) = true) : a = true ∧ b = true := Bool.and_eq_true_iff.mp h
section
variable {c : Ck} {X : Cx} {gf : Str → Option Addr} {W : WX} {k : Nat} {cf : Str → List D → M D} {gc : Str → Option D}
theorem Ok.units (o : Ok c X gf W k cf gc) : X.A.units + 66 < cLine := by have := o.room.un; omega
theorem Ok.kind (o : Ok c X gf W k cf gc) {x : Str} {kd : NameKind} (h : kindB c.sc x kd = true) : X.env.scope.names.lookup x = some kd := by rw [o.sc]; exact of_decide_eq_true h
theorem okName_of {x : Str} (h : okName x = true) : (x == ("__debug__" : Str)) = false ∧ (x == ("__classdict__" : Str)) = false ∧ x ≠ "__name__" := by
  unfold okName at h
  simp only [Bool.and_eq_true, Bool.not_eq_true', decide_eq_true_eq] at h
  exact ⟨h.1.1, h.1.2, h.2⟩
theorem Ok.vis (o : Ok c X gf W k cf gc) {x : Str} (h : visB c.sc x = true) : Vis X.env.scope x := by
  unfold visB at h
  simp only [Bool.or_eq_true] at h
  rcases h with (h | h) | h
  · exact .inl (o.kind h)
  · exact .inr (.inl (o.kind h))
  · exact .inr (.inr (o.kind h))
theorem Ok.glob (o : Ok c X gf W k cf gc) {x : Str} (h : c.glob x = true) : Gl X x ∧ (x == ("__debug__" : Str)) = false ∧ x ≠ "__name__" := by
  unfold Ck.glob at h
  obtain ⟨h1, h2⟩ := band h
  obtain ⟨a, b, d⟩ := okName_of h2
  exact ⟨o.kind h1, a, d⟩
theorem Ok.blt (o : Ok c X gf W k cf gc) {x : Str} (h : c.blt x = true) : Gl X x ∧ X.mg x = none ∧ (x == ("__debug__" : Str)) = false ∧ x ≠ "__name__" := by
  unfold Ck.blt at h
  obtain ⟨h1, h2⟩ := band h
  obtain ⟨a, b, d⟩ := o.glob h1
  exact ⟨a, o.free x (of_decide_eq_true h2), b, d⟩
theorem Ok.loc (o : Ok c X gf W k cf gc) {x : Str} (h : locB c x = true) : Loc X.env.scope x ∧ (X.fn x = true ∨ X.env.scope.names.lookup x = some .local) := by
  unfold locB at h
  simp only [Bool.or_eq_true, Bool.and_eq_true] at h
  rcases h with h | ⟨h1, h2⟩
  · exact ⟨.inl (o.kind h), .inr (o.kind h)⟩
  · exact ⟨.inr (o.kind h2), .inl (o.fnt h1 x)⟩
theorem Ok.blk (o : Ok c X gf W k cf gc) (s : Shared) (H : Hp) (scope : Scope) (cl : List (Str × Addr)) (C : Addr) (fp : List Addr) :
    Ok { c with sc := relS scope c.sc, top := false } (X.blk s H scope (compEnvC scope cl C X.env) fp) gf W0 k cf gc where
  nN := o.nN
  nd := o.nd
  sc := by rw [← o.sc]; rfl
  calm := o.calm
  room := o.room
  tk := takes0
  own := PassesOwn.never
  free := o.free
  fns := o.fns
  con := o.con
  fnt := fun h => by cases h
theorem star_of {e : Expr} {es : List Expr} {env : Env} (h : notStar e = true) : starEach (e :: es) env = (false, eval e env) :: starEach es env := by
  cases e <;> first | rfl | cases h
theorem fset_of {e : Expr} {env : Env} (h : notSet e = true) : ∀ x, foldedSetIterable e env x = pure x := by
  intro x
  cases e <;> first | rfl | cases h
theorem mark_of {e : Expr} {op : CmpOp} (h : notSet e = true) : behindInMarks op e = false := by
  cases e <;> first | rfl | cases h
theorem plainIx_of {e : Expr} (h : notSlice e = true) : PlainIx e := by
  intro o i
  cases e <;> first | rfl | cases h
theorem base_of {e : Expr} {m : Str} {env : Env} (h : notSuper e = true) : attributeBase e m env (eval e env) = eval e env := by
  cases e with
  | Call f args kws pos =>
    cases f with
    | Name x p =>
      cases args with
      | nil => cases kws with
        | nil => cases h
        | cons a b => rfl
      | cons a b => rfl
    | _ => rfl
  | _ => rfl
/-- all arguments are plain -/
theorem ckEs_plain : ∀ {es : Es} {vs : List Expr} {env : Env} {pos : Pos}, ckEs c es vs = true → (backTo pos (starEach vs env)).any (·.1) = false ∧ (backTo pos (starEach vs env)).all (fun x => !x.1) = true
  | .nil, [], _, _, _ => ⟨rfl, rfl⟩
  | .nil, _ :: _, _, _, h => by simp [ckEs] at h
  | .cons _ _, [], _, _, h => by simp [ckEs] at h
  | .cons e es, v :: vs, env, pos, h => by
    simp only [ckEs] at h
    obtain ⟨h1, h2⟩ := band h
    obtain ⟨h3, h4⟩ := band h1
    obtain ⟨i1, i2⟩ := ckEs_plain (env := env) (pos := pos) h2
    rw [star_of h4]
    refine ⟨?_, ?_⟩
    · show (false || (backTo pos (starEach vs env)).any (·.1)) = false
      rw [i1]; rfl
    · show (!false && (backTo pos (starEach vs env)).all (fun x => !x.1)) = true
      rw [i2]; rfl
theorem ckEs_head {es : Es} {v : Expr} {vs : List Expr} (h : ckEs c es (v :: vs) = true) : notStar v = true ∧ ∃ e es', es = .cons e es' ∧ ckE c e v = true ∧ ckEs c es' vs = true := by
  cases es with
  | nil => simp [ckEs] at h
  | cons e es =>
    simp only [ckEs] at h
    obtain ⟨h1, h2⟩ := band h
    obtain ⟨h3, h4⟩ := band h1
    exact ⟨h4, e, es, rfl, h3, h2⟩

theorem ckE_star {a : E} {e : Expr} (h : ckE c a e = true) : notStar e = true := by
  cases e <;> first | rfl | (cases a <;> simp [ckE, notStar] at h)

/-! ### operators -/
theorem os_bop (op : Bop) : OpS X gf (binaryOp op.op) op.g := by
  cases op with
  | add m => exact os_add
  | sub => exact os_sub
  | mod => exact os_mod
  | div => exact os_div
  | mul m => exact os_mul
theorem os_cmp (hu : X.A.units + 66 < cLine) (op : CmpOp) : OpS X gf (compareOp op) (cmpG op) := by
  cases op with
  | Eq => exact os_eq (by omega)
  | NotEq => exact os_ne (by omega)
  | Lt => exact os_lt
  | LtE => exact os_le
  | Gt => exact os_gt
  | GtE => exact os_ge
  | Is => exact os_is
  | IsNot => exact os_isNot
  | In => exact os_in hu
  | NotIn => exact os_notIn hu
theorem s_bltin (o : Ok c X gf W k cf gc) (f : Blt) {v : Expr} {p pos : Pos} {m : Lo → M D} (hb : c.blt f.name = true) (hv : SE X gf W v m) (hs : notStar v = true) : SE X gf W (.Call (.Name f.name p) [v] [] pos) (mApp f.g (aCons m aNil)) := by
  obtain ⟨h1, h2, h3, h4⟩ := o.blt hb
  have ha : SA X gf W [v] (aCons m aNil) := sa_cons hv sa_nil (star_of hs)
  cases f with
  | len => exact s_blt cs_len h1 h2 (by decide +kernel) ha h4 h3 (star_of hs) rfl
  | all => exact s_blt (cs_all o.calm) h1 h2 (by decide +kernel) ha h4 h3 (star_of hs) rfl
  | any => exact s_blt (cs_any o.calm) h1 h2 (by decide +kernel) ha h4 h3 (star_of hs) rfl
  | tuple => exact s_ty cs_tuple h1 h2 (by decide +kernel) ha h4 h3 (star_of hs) rfl
  | list m => exact s_ty cs_list h1 h2 (by show bootBuiltins "list" = some (.type "list"); decide +kernel) ha h4 h3 (star_of hs) rfl
  | int => exact s_ty cs_int h1 h2 (by decide +kernel) ha h4 h3 (star_of hs) rfl
  | str => exact s_ty cs_str h1 h2 (by decide +kernel) ha h4 h3 (star_of hs) rfl
  | sum => exact s_blt (cs_sum o.calm) h1 h2 (by decide +kernel) ha h4 h3 (star_of hs) rfl
theorem few_of {vs : List Expr} {cp : Pos} {env : Env} (h : (backTo cp (starEach vs env)).all (fun x => !x.1) = true) (hl : vs.length < 20) :
    ((backTo cp (starEach vs env)).all (fun x => !x.1) && (backToKw cp (keywordEach [] env)).all (fun x => x.1.isSome) && decide (vs.length + ([] : List Keyword).length + (if ([] : List Keyword).isEmpty then 0 else 1) < 30)) = true := by
  rw [h]
  show (true && true && decide (vs.length + 0 + 0 < 30)) = true
  simp; omega
theorem s_bmeth (f : Bm) {e : Expr} {vs : List Expr} {es : Es} {ap cp : Pos} {mo : Lo → M D} {mr : Lo → M (List D)} (hl : (ap.endLine == cp.line) = true) (hsu : notSuper e = true) (hn : vs.length < 20) (hck : ckEs c es vs = true) (ho : SE X gf W e mo) (hv : SA X gf W vs mr) (hnil : vs = [] → mr = aNil) :
    SE X gf W (.Call (.Attribute e f.name ap) vs [] cp) (mBM f.T f.g mo mr) := by
  obtain ⟨pl1, pl2⟩ := ckEs_plain (c := c) (env := X.env) (pos := cp) hck
  cases vs with
  | nil =>
    rw [hnil rfl]
    cases f with
    | append => exact s_bm0 (T := .list) PySem.F.plainAttrs_list PySem.F.slot_list_append PySem.F.type_list_append ms_append ho (base_of hsu) hl
    | extend => exact s_bm0 (T := .list) PySem.F.plainAttrs_list PySem.F.slot_list_extend PySem.F.type_list_extend ms_extend ho (base_of hsu) hl
    | pop => exact s_bm0 (T := .list) PySem.F.plainAttrs_list PySem.F.slot_list_pop PySem.F.type_list_pop ms_pop ho (base_of hsu) hl
  | cons v vs =>
    obtain ⟨ns, e1, es1, rfl, _, hck2⟩ := ckEs_head hck
    obtain ⟨pl3, _⟩ := ckEs_plain (c := c) (env := X.env) (pos := cp) hck2
    cases f with
    | append => exact s_bm (T := .list) PySem.F.plainAttrs_list PySem.F.slot_list_append PySem.F.type_list_append ms_append ho hv (base_of hsu) (few_of pl2 hn) hl (star_of ns) pl3
    | extend => exact s_bm (T := .list) PySem.F.plainAttrs_list PySem.F.slot_list_extend PySem.F.type_list_extend ms_extend ho hv (base_of hsu) (few_of pl2 hn) hl (star_of ns) pl3
    | pop => exact s_bm (T := .list) PySem.F.plainAttrs_list PySem.F.slot_list_pop PySem.F.type_list_pop ms_pop ho hv (base_of hsu) (few_of pl2 hn) hl (star_of ns) pl3
theorem ty_boot (T : Ty) : bootBuiltins T.name = some (.type T.nm) := by cases T <;> decide +kernel

/-! ### targets -/
theorem names_of (o : Ok c X gf W k cf gc) : ∀ {es : List Expr} {is : List Nat}, namesB c es is = true → NamesAt X es is
  | [], [], _ => .nil
  | [], _ :: _, h => by simp [namesB] at h
  | e :: es, is, h => by
    cases e <;> cases is <;> simp only [namesB, Bool.false_eq_true] at h
    obtain ⟨h1, h2⟩ := band h
    obtain ⟨h3, h4⟩ := band h1
    obtain ⟨a, b⟩ := o.loc h4
    exact .cons (by rw [o.nN]; exact of_decide_eq_true h3) a b (names_of o h2)
theorem tg_of (o : Ok c X gf W k cf gc) {t : Tg} {e : Expr} (h : tgB c t e = true) : SG X e t := by
  have hN : X.N.Nodup := by rw [o.nN]; exact o.nd
  cases t with
  | one i =>
    cases e <;> simp only [tgB, Bool.false_eq_true] at h
    obtain ⟨h3, h4⟩ := band h
    obtain ⟨a, b⟩ := o.loc h4
    exact sg_one hN (by rw [o.nN]; exact of_decide_eq_true h3) a b
  | tup is =>
    cases e <;> simp only [tgB, Bool.false_eq_true] at h
    exact sg_tup hN o.calm (names_of o h)
theorem tgSlots_eq (t : Tg) : tgSlots t = (match t with | .one i => [i] | .tup is => is) := by cases t <;> rfl
end
end TB
set_option Elab.async false
set_option linter.all false
set_option maxRecDepth 100000
set_option maxHeartbeats 4000000
/-! TB10: the look is sound: expressions -/
namespace TB
open PySem PySem.Spec L2
section
variable {gf : Str → Option Addr} {k : Nat} {cf : Str → List D → M D} {gc : Str → Option D}
theorem tru {X : Cx} {W : WX} {e : Expr} {m : Lo → M D} (h : SE X gf W e m) (he : ∀ whole, isTrue e X.env whole = (do let v ← whole; standAt e.pos; holding [v] (truthy v))) : SE X gf W e m ∧ ST X gf W e (mTru m) := ⟨h, st_tru h he⟩
theorem s_globc {c : Ck} {X : Cx} {W : WX} (o : Ok c X gf W k cf gc) {x : Str} {p : Pos} (hg : c.glob x = true) (hc : x ∈ c.con) : SE X gf W (.Name x p) (fun _ => M.look fun _ => gc x) := by
  obtain ⟨h1, h2, h3⟩ := o.glob hg
  cases h : gc x with
  | none => exact ⟨fun _ _ _ _ _ _ ⟨_, _, _, _, S, _, p⟩ => p.elim⟩
  | some d =>
    obtain ⟨v, u, q1, q2, q3⟩ := o.con x hc d h
    exact s_glob h1 q1 q2 h2 q3
/-- the values of a display -/
noncomputable def msL (cf : Str → List D → M D) (gc : Str → Option D) : Es → List (Lo → M D)
  | .nil => []
  | .cons e es => ev cf gc e :: msL cf gc es
theorem evs_all : ∀ es : Es, evs cf gc es = aAll (msL cf gc es)
  | .nil => by rw [evs]; rfl
  | .cons e es => by rw [evs, evs_all es]; rfl
theorem ckPs_len {c : Ck} : ∀ {es : Es} {ks : List Key} {keys : List (Option Expr)} {vals : List Expr}, ckPs c es ks keys vals = true → keys.all (·.isSome) = true ∧ keys.length = vals.length ∧ ks.length = (msL cf gc es).length ∧ ks.length = keys.length ∧ ∀ k ∈ ks, keyOk k
  | .nil, [], [], [], _ => ⟨rfl, rfl, rfl, rfl, fun _ h => by cases h⟩
  | .cons e es, k :: ks, some ke :: keys, v :: vs, h => by
    simp only [ckPs] at h
    obtain ⟨h1, h2⟩ := band h
    obtain ⟨h3, h4⟩ := band h1
    obtain ⟨a, b, d, e', f⟩ := ckPs_len h2
    refine ⟨by simpa using a, by simpa using b, by simpa [msL] using d, by simpa using e', fun q hq => ?_⟩
    rcases List.mem_cons.mp hq with rfl | hq
    · exact kE_ok h3
    · exact f q hq
  | .nil, _ :: _, _, _, h => by simp [ckPs] at h
  | .nil, [], _ :: _, _, h => by simp [ckPs] at h
  | .nil, [], [], _ :: _, h => by simp [ckPs] at h
  | .cons _ _, [], _, _, h => by simp [ckPs] at h
  | .cons _ _, _ :: _, [], _, h => by simp [ckPs] at h
  | .cons _ _, _ :: _, none :: _, _, h => by simp [ckPs] at h
  | .cons _ _, _ :: _, some _ :: _, [], h => by simp [ckPs] at h
mutual
theorem sndE : ∀ (a : E) (e : Expr) (c : Ck) (X : Cx) (W : WX), Ok c X gf W k cf gc → ckE c a e = true → SE X gf W e (ev cf gc a) ∧ ST X gf W e (tst cf gc a)
  | .bad, e, c, X, W, o, h => ⟨s_bad, st_bad⟩
  | .var i, e, c, X, W, o, h => by
    cases e <;> simp only [ckE, Bool.false_eq_true] at h
    obtain ⟨h1, h2⟩ := band h
    obtain ⟨h3, h4⟩ := band h1
    obtain ⟨a1, a2, a3⟩ := okName_of h2
    exact tru (s_var (by rw [o.nN]; exact of_decide_eq_true h3) (o.vis h4) a1 a2) fun _ => rfl
  | .non, e, c, X, W, o, h => by
    cases e with
    | Constant v j p => cases v <;> simp only [ckE, Bool.false_eq_true] at h; exact tru s_non fun _ => rfl
    | _ => simp only [ckE, Bool.false_eq_true] at h
  | .bl b, e, c, X, W, o, h => by
    cases e with
    | Constant v j p => cases v <;> simp only [ckE, Bool.false_eq_true] at h; cases eq_of_beq h; exact tru s_bl fun _ => rfl
    | _ => simp only [ckE, Bool.false_eq_true] at h
  | .int b, e, c, X, W, o, h => by
    cases e with
    | Constant v j p => cases v <;> simp only [ckE, Bool.false_eq_true] at h; cases of_decide_eq_true h; exact tru s_int fun _ => rfl
    | _ => simp only [ckE, Bool.false_eq_true] at h
  | .str b, e, c, X, W, o, h => by
    cases e with
    | Constant v j p =>
      cases v <;> simp only [ckE, Bool.false_eq_true] at h
      obtain ⟨h1, h2⟩ := band h
      obtain ⟨h3, h4⟩ := band h1
      cases of_decide_eq_true h3
      exact tru (s_str h4 (of_decide_eq_true h2)) fun _ => rfl
    | _ => simp only [ckE, Bool.false_eq_true] at h
  | .glob x, e, c, X, W, o, h => by
    cases e <;> simp only [ckE, Bool.false_eq_true] at h
    obtain ⟨h1, h2⟩ := band h
    obtain ⟨h3, h4⟩ := band h1
    cases of_decide_eq_true h3
    exact tru (s_globc o h4 (of_decide_eq_true h2)) fun _ => rfl
  | .band es, e, c, X, W, o, h => by
    cases e with
    | BoolOp op vs p =>
      cases op <;> simp only [ckE, Bool.false_eq_true] at h
      obtain ⟨h1, h2⟩ := band h
      cases vs with
      | nil => simp at h2
      | cons v vs =>
        obtain ⟨q1, q2⟩ := sndAnd es v vs c X W p o h1
        exact ⟨q1, q2.pt⟩
    | _ => simp only [ckE, Bool.false_eq_true] at h
  | .bor es, e, c, X, W, o, h => by
    cases e with
    | BoolOp op vs p =>
      cases op <;> simp only [ckE, Bool.false_eq_true] at h
      obtain ⟨h1, h2⟩ := band h
      cases vs with
      | nil => simp at h2
      | cons v vs =>
        obtain ⟨q1, q2⟩ := sndOr es v vs c X W p o h1
        exact ⟨q1, q2.pt⟩
    | _ => simp only [ckE, Bool.false_eq_true] at h
  | .not a, e, c, X, W, o, h => by
    cases e with
    | UnaryOp op v p =>
      cases op <;> simp only [ckE, Bool.false_eq_true] at h
      obtain ⟨q1, q2⟩ := sndE a v c X W o h
      exact ⟨s_not q1, st_not q2⟩
    | _ => simp only [ckE, Bool.false_eq_true] at h
  | .bin op a b, e, c, X, W, o, h => by
    cases e <;> simp only [ckE, Bool.false_eq_true] at h
    obtain ⟨h1, h2⟩ := band h
    obtain ⟨h3, h4⟩ := band h1
    have e1 := of_decide_eq_true h3
    subst e1
    exact tru (s_op (os_bop op) (sndE a _ c X W o h4).1 (sndE b _ c X W o h2).1) fun _ => rfl
  | .neg a, e, c, X, W, o, h => by
    cases e with
    | UnaryOp op v p =>
      cases op <;> simp only [ckE, Bool.false_eq_true] at h
      exact tru (s_neg (sndE a v c X W o h).1) fun _ => rfl
    | _ => simp only [ckE, Bool.false_eq_true] at h
  | .cmp op a b, e, c, X, W, o, h => by
    cases e with
    | Compare l ops rs p =>
      match ops, rs, h with
      | [op'], [r], h =>
        simp only [ckE] at h
        obtain ⟨h1, h2⟩ := band h
        obtain ⟨h3, h4⟩ := band h1
        obtain ⟨h5, h6⟩ := band h3
        cases of_decide_eq_true h5
        exact ⟨s_cmp (os_cmp o.units op) (sndE a _ c X W o h6).1 (sndE b _ c X W o h4).1 (mark_of h2), st_cmp (os_cmp o.units op) (sndE a _ c X W o h6).1 (sndE b _ c X W o h4).1 (mark_of h2)⟩
      | [], _, h => simp [ckE] at h
      | _ :: _ :: _, _, h => simp [ckE] at h
      | [_], [], h => simp [ckE] at h
      | [_], _ :: _ :: _, h => simp [ckE] at h
    | _ => simp only [ckE, Bool.false_eq_true] at h
  | .chain o1 o2 a b d, e, c, X, W, o, h => by
    cases e with
    | Compare l ops rs p =>
      match ops, rs, h with
      | [p1, p2], [r, r2], h =>
        simp only [ckE] at h
        obtain ⟨h, h2⟩ := band h
        obtain ⟨h, h4⟩ := band h
        obtain ⟨h, h5⟩ := band h
        obtain ⟨h, h6⟩ := band h
        obtain ⟨h, h7⟩ := band h
        have e7 := of_decide_eq_true h7
        have e8 := of_decide_eq_true h
        subst e7 e8
        have hm : lastMarks [o1, o2] [r, r2] = false := mark_of h2
        exact ⟨s_chain (os_cmp o.units o1) (os_cmp o.units o2) (sndE a _ c X W o h6).1 (sndE b _ c X W o h5).1 (sndE d _ c X W o h4).1 hm, st_chain (os_cmp o.units o1) (os_cmp o.units o2) (sndE a _ c X W o h6).1 (sndE b _ c X W o h5).1 (sndE d _ c X W o h4).1 hm⟩
      | [], _, h => simp [ckE] at h
      | [_], _, h => simp [ckE] at h
      | _ :: _ :: _ :: _, _, h => simp [ckE] at h
      | [_, _], [], h => simp [ckE] at h
      | [_, _], [_], h => simp [ckE] at h
      | [_, _], _ :: _ :: _ :: _, h => simp [ckE] at h
    | _ => simp only [ckE, Bool.false_eq_true] at h
  | .ite q a b, e, c, X, W, o, h => by
    cases e <;> simp only [ckE, Bool.false_eq_true] at h
    obtain ⟨h1, h2⟩ := band h
    obtain ⟨h3, h4⟩ := band h1
    exact ⟨s_ite (sndE q _ c X W o h3).2 (sndE a _ c X W o h4).1 (sndE b _ c X W o h2).1, st_bad⟩
  | .tup es, e, c, X, W, o, h => by
    cases e <;> simp only [ckE, Bool.false_eq_true] at h
    exact tru (s_tup (sndEs es _ c X W o h)) fun _ => rfl
  | .lst m es, e, c, X, W, o, h => by
    cases e <;> simp only [ckE, Bool.false_eq_true] at h
    exact tru (s_lst (sndEs es _ c X W o h)) fun _ => rfl
  | .call f n es, e, c, X, W, o, h => by
    cases e with
    | Call fe args kws p =>
      cases fe with
      | Name x px =>
        match args, kws, h with
        | v :: vs, [], h =>
          simp only [ckE] at h
          obtain ⟨h1, h2⟩ := band h
          obtain ⟨h3, h4⟩ := band h1
          obtain ⟨h5, h6⟩ := band h3
          cases of_decide_eq_true h5
          obtain ⟨g1, g2, g3⟩ := o.glob h6
          obtain ⟨ns, e1, es1, rfl, q1, q2⟩ := ckEs_head h2
          exact tru (s_call (o.fns f n (of_decide_eq_true h4)) o.room g1 o.tk (sndEs _ _ c X W o h2) g2 (star_of ns) (ckEs_plain q2).1) fun _ => rfl
        | [], _, h => simp [ckE] at h
        | _ :: _, _ :: _, h => simp [ckE] at h
      | _ => simp [ckE] at h
    | _ => simp only [ckE, Bool.false_eq_true] at h
  | .blt f a, e, c, X, W, o, h => by
    cases e with
    | Call fe args kws p =>
      cases fe with
      | Name x px =>
        match args, kws, h with
        | [v], [], h =>
          simp only [ckE] at h
          obtain ⟨h1, h2⟩ := band h
          obtain ⟨h3, h4⟩ := band h1
          cases of_decide_eq_true h3
          have ns : notStar v = true := ckE_star h2
          exact tru (s_bltin o f h4 (sndE a v c X W o h2).1 ns) fun _ => rfl
        | [], _, h => simp [ckE] at h
        | _ :: _ :: _, _, h => simp [ckE] at h
        | [_], _ :: _, h => simp [ckE] at h
      | _ => simp [ckE] at h
    | _ => simp only [ckE, Bool.false_eq_true] at h
  | .isi T a, e, c, X, W, o, h => by
    cases e with
    | Call fe args kws p =>
      cases fe with
      | Name x px =>
        match args, kws, h with
        | [v, t], [], h =>
          cases t with
          | Name t pt =>
            simp only [ckE] at h
            obtain ⟨h, h2⟩ := band h
            obtain ⟨h, h3⟩ := band h
            obtain ⟨h, h4⟩ := band h
            obtain ⟨h, h5⟩ := band h
            have e4 := of_decide_eq_true h4
            have e5 := of_decide_eq_true h
            subst e4 e5
            obtain ⟨g1, g2, g3, g4⟩ := o.blt h5
            obtain ⟨t1, t2, t3, t4⟩ := o.blt h3
            exact tru (s_isi (x := "isinstance") (sndE a v c X W o h2).1 g1 g2 t1 t2 (ty_boot T) t4 t3 (star_of (ckE_star h2))) fun _ => rfl
          | _ => simp [ckE] at h
        | [], _, h => simp [ckE] at h
        | [_], _, h => simp [ckE] at h
        | _ :: _ :: _ :: _, _, h => simp [ckE] at h
        | [_, _], _ :: _, h => simp [ckE] at h
      | _ => simp [ckE] at h
    | _ => simp only [ckE, Bool.false_eq_true] at h
  | .bm f ob es, e, c, X, W, o, h => by
    cases e with
    | Call fe args kws p =>
      cases fe with
      | Attribute e1 m ap =>
        cases kws with
        | nil =>
          simp only [ckE] at h
          obtain ⟨h, h2⟩ := band h
          obtain ⟨h, h3⟩ := band h
          obtain ⟨h, h4⟩ := band h
          obtain ⟨h, h5⟩ := band h
          obtain ⟨h, h6⟩ := band h
          cases of_decide_eq_true h
          exact tru (s_bmeth f h6 h5 (of_decide_eq_true h4) h2 (sndE ob e1 c X W o h3).1 (sndEs es args c X W o h2) (fun z => by subst z; cases es with | nil => rfl | cons => simp [ckEs] at h2)) fun _ => rfl
        | cons => simp [ckE] at h
      | _ => simp [ckE] at h
    | _ => simp only [ckE, Bool.false_eq_true] at h
  | .idx ob i, e, c, X, W, o, h => by
    cases e <;> simp only [ckE, Bool.false_eq_true] at h
    obtain ⟨h1, h2⟩ := band h
    obtain ⟨h3, h4⟩ := band h1
    exact tru (s_idx o.units (sndE ob _ c X W o h4).1 (sndE i _ c X W o h2).1 (plainIx_of h3)) fun _ => rfl
  | .slc m ob lo hi, e, c, X, W, o, h => by
    cases e with
    | Subscript e1 s p =>
      cases s with
      | Slice l u st p2 =>
        cases st with
        | none =>
          simp only [ckE] at h
          obtain ⟨h1, h2⟩ := band h
          obtain ⟨h3, h4⟩ := band h1
          exact tru (s_slc (sndE ob _ c X W o h3).1 (sndO lo _ c X W o h4) (sndO hi _ c X W o h2)) fun _ => rfl
        | some _ => simp [ckE] at h
      | _ => simp [ckE] at h
    | _ => simp only [ckE, Bool.false_eq_true] at h
  | .rev m ob, e, c, X, W, o, h => by
    cases e <;> simp only [ckE, Bool.false_eq_true] at h
    obtain ⟨h1, h2⟩ := band h
    obtain ⟨_, _, _, _, rfl⟩ := isRevS_of h1
    exact tru (s_rev (sndE ob _ c X W o h2).1) fun _ => rfl
  | .lc m own t it cd el, e, c, X, W, o, h => by
    cases e with
    | ListComp e1 gens scope p =>
      match gens, h with
      | [⟨tg, iter, ifs, as⟩], h =>
        simp only [ckE] at h
        obtain ⟨h, h1⟩ := band h
        obtain ⟨h, h2⟩ := band h
        obtain ⟨h, h3⟩ := band h
        obtain ⟨h, h4⟩ := band h
        obtain ⟨h, h5⟩ := band h
        obtain ⟨h, h6⟩ := band h
        obtain ⟨h, h7⟩ := band h
        have e8 := of_decide_eq_true h
        subst e8
        have ob := fun s H C cl fp => o.blk s H scope cl C fp
        refine tru (s_lc (own := own) o.calm (by rw [o.nN]; exact o.nd) (sndI it iter tg c X W o h4) (by rw [o.nN, o.sc]; exact blkOk_by h7) (fun i hi => ?_)
          (fun s H C cl fp => tg_of (ob s H C cl fp) h3) (fun s H C cl fp => sndC cd ifs _ _ _ (ob s H C cl fp) h2) (fun s H C cl fp => (sndE el e1 _ _ _ (ob s H C cl fp) h1).1) (fset_of h5)) fun _ => rfl
        exact of_decide_eq_true (List.all_eq_true.mp h6 i (by cases t <;> exact hi))
      | [], h => simp [ckE] at h
      | _ :: _ :: _, h => simp [ckE] at h
    | _ => simp only [ckE, Bool.false_eq_true] at h
  | .dsp ks es, e, c, X, W, o, h => by
    cases e <;> simp only [ckE, Bool.false_eq_true] at h
    rename_i keys vals p
    obtain ⟨h, h1⟩ := band h
    obtain ⟨h, h2⟩ := band h
    obtain ⟨a1, a2, a3, a4, a5⟩ := ckPs_len (cf := cf) (gc := gc) h
    rw [ev, tst, evs_all]
    exact tru (s_dsp (sndPs es ks keys vals c X W p o h) a1 a2 (fun z => by subst z; simp at h2) (of_decide_eq_true h1) a3 a4 a5) fun _ => rfl
  | .dnew, e, c, X, W, o, h => by
    cases e <;> simp only [ckE, Bool.false_eq_true] at h
    rename_i keys vals p
    obtain ⟨h1, h2⟩ := band h
    cases keys with
    | nil =>
      cases vals with
      | nil => exact tru s_dnew fun _ => rfl
      | cons => simp at h2
    | cons => simp at h1
theorem sndPs : ∀ (es : Es) (ks : List Key) (keys : List (Option Expr)) (vals : List Expr) (c : Ck) (X : Cx) (W : WX) (p : Pos), Ok c X gf W k cf gc → ckPs c es ks keys vals = true → PPs X p keys vals (dTrs X.K gf W ks (msL cf gc es))
  | .nil, [], [], [], c, X, W, p, o, h => pps_nil
  | .cons e es, q :: ks, some ke :: keys, v :: vs, c, X, W, p, o, h => by
    simp only [ckPs] at h
    obtain ⟨h1, h2⟩ := band h
    obtain ⟨h3, h4⟩ := band h1
    exact pps_cons (kE_of h3) (sndE e v c X W o h4).1 (sndPs es ks keys vs c X W p o h2)
  | .nil, _ :: _, _, _, c, X, W, p, o, h => by simp [ckPs] at h
  | .nil, [], _ :: _, _, c, X, W, p, o, h => by simp [ckPs] at h
  | .nil, [], [], _ :: _, c, X, W, p, o, h => by simp [ckPs] at h
  | .cons _ _, [], _, _, c, X, W, p, o, h => by simp [ckPs] at h
  | .cons _ _, _ :: _, [], _, c, X, W, p, o, h => by simp [ckPs] at h
  | .cons _ _, _ :: _, none :: _, _, c, X, W, p, o, h => by simp [ckPs] at h
  | .cons _ _, _ :: _, some _ :: _, [], c, X, W, p, o, h => by simp [ckPs] at h
theorem sndEs : ∀ (es : Es) (vs : List Expr) (c : Ck) (X : Cx) (W : WX), Ok c X gf W k cf gc → ckEs c es vs = true → SA X gf W vs (evs cf gc es)
  | .nil, [], c, X, W, o, h => sa_nil
  | .nil, _ :: _, c, X, W, o, h => by simp [ckEs] at h
  | .cons _ _, [], c, X, W, o, h => by simp [ckEs] at h
  | .cons e es, v :: vs, c, X, W, o, h => by
    simp only [ckEs] at h
    obtain ⟨h1, h2⟩ := band h
    obtain ⟨h3, h4⟩ := band h1
    exact sa_cons (sndE e v c X W o h3).1 (sndEs es vs c X W o h2) (star_of h4)
theorem sndAnd : ∀ (es : Es) (v : Expr) (vs : List Expr) (c : Ck) (X : Cx) (W : WX) (p : Pos), Ok c X gf W k cf gc → ckEs c es (v :: vs) = true → SE X gf W (.BoolOp .And (v :: vs) p) (evAnd cf gc es) ∧ SW X gf W (.BoolOp .And (v :: vs) p) (tstAnd cf gc es)
  | .nil, v, vs, c, X, W, p, o, h => by simp [ckEs] at h
  | .cons e es, v, vs, c, X, W, p, o, h => by
    simp only [ckEs] at h
    obtain ⟨h1, h2⟩ := band h
    obtain ⟨h3, h4⟩ := band h1
    obtain ⟨q1, q2⟩ := sndE e v c X W o h3
    match es, vs, h2 with
    | .nil, [], _ => exact ⟨s_one q1, sw_and1 q2⟩
    | .nil, _ :: _, h2 => simp [ckEs] at h2
    | .cons _ _, [], h2 => simp [ckEs] at h2
    | .cons e2 es2, v2 :: vs2, h2 =>
      obtain ⟨r1, r2⟩ := sndAnd (.cons e2 es2) v2 vs2 c X W p o h2
      exact ⟨s_and q1 r1, sw_and q2 r2⟩
theorem sndOr : ∀ (es : Es) (v : Expr) (vs : List Expr) (c : Ck) (X : Cx) (W : WX) (p : Pos), Ok c X gf W k cf gc → ckEs c es (v :: vs) = true → SE X gf W (.BoolOp .Or (v :: vs) p) (evOr cf gc es) ∧ SW X gf W (.BoolOp .Or (v :: vs) p) (tstOr cf gc es)
  | .nil, v, vs, c, X, W, p, o, h => by simp [ckEs] at h
  | .cons e es, v, vs, c, X, W, p, o, h => by
    simp only [ckEs] at h
    obtain ⟨h1, h2⟩ := band h
    obtain ⟨h3, h4⟩ := band h1
    obtain ⟨q1, q2⟩ := sndE e v c X W o h3
    match es, vs, h2 with
    | .nil, [], _ => exact ⟨s_one q1, sw_or1 q2⟩
    | .nil, _ :: _, h2 => simp [ckEs] at h2
    | .cons _ _, [], h2 => simp [ckEs] at h2
    | .cons e2 es2, v2 :: vs2, h2 =>
      obtain ⟨r1, r2⟩ := sndOr (.cons e2 es2) v2 vs2 c X W p o h2
      exact ⟨s_or q1 r1, sw_or q2 r2⟩
theorem sndO : ∀ (eo : Eo) (v : Option Expr) (c : Ck) (X : Cx) (W : WX), Ok c X gf W k cf gc → ckO c eo v = true → SO X gf W v (evo cf gc eo)
  | .none, none, c, X, W, o, h => so_none
  | .none, some _, c, X, W, o, h => by simp [ckO] at h
  | .some _, none, c, X, W, o, h => by simp [ckO] at h
  | .some e, some v, c, X, W, o, h => by
    simp only [ckO] at h
    exact so_some (sndE e v c X W o h).1
theorem sndC : ∀ (eo : Eo) (vs : List Expr) (c : Ck) (X : Cx) (W : WX), Ok c X gf W k cf gc → ckC c eo vs = true → SC X gf W vs (evc cf gc eo)
  | .none, [], c, X, W, o, h => sc_nil
  | .none, _ :: _, c, X, W, o, h => by simp [ckC] at h
  | .some _, [], c, X, W, o, h => by simp [ckC] at h
  | .some _, _ :: _ :: _, c, X, W, o, h => by simp [ckC] at h
  | .some e, [v], c, X, W, o, h => by
    simp only [ckC] at h
    exact sc_one (sndE e v c X W o h).2
theorem sndI : ∀ (it : It) (v tg : Expr) (c : Ck) (X : Cx) (W : WX), Ok c X gf W k cf gc → ckI c it tg v = true → SI X gf W tg v (evi cf gc it)
  | .seq e, v, tg, c, X, W, o, h => by simp only [ckI] at h; exact si_seq (sndE e v c X W o h).1
  | .rng1 e, v, tg, c, X, W, o, h => by
    cases v with
    | Call fe args kws p =>
      cases fe with
      | Name x px =>
        match args, kws, h with
        | [v], [], h =>
          simp only [ckI] at h
          obtain ⟨h, h2⟩ := band h
          obtain ⟨h, h3⟩ := band h
          obtain ⟨h, h4⟩ := band h
          cases of_decide_eq_true h
          obtain ⟨g1, g2, g3, g4⟩ := o.blt h4
          exact si_rng1 g1 g2 (sndE e v c X W o h3).1 (star_of h2)
        | [], _, h => simp [ckI] at h
        | _ :: _ :: _, _, h => simp [ckI] at h
        | [_], _ :: _, h => simp [ckI] at h
      | _ => simp [ckI] at h
    | _ => simp [ckI] at h
  | .zip a b, v, tg, c, X, W, o, h => by
    cases tg with
    | Tuple elts kk tpos =>
      cases v with
      | Call fe args kws p =>
        cases fe with
        | Name x px =>
          match args, kws, h with
          | [v, w], [], h =>
            simp only [ckI] at h
            obtain ⟨h, h2⟩ := band h
            obtain ⟨h, h3⟩ := band h
            obtain ⟨h, h4⟩ := band h
            obtain ⟨h, h5⟩ := band h
            obtain ⟨h, h6⟩ := band h
            cases of_decide_eq_true h
            obtain ⟨g1, g2, g3, g4⟩ := o.blt h6
            rw [evi]
            exact si_zip g1 g2 (sa_cons (sndE a v c X W o h5).1 (sa_cons (sndE b w c X W o h4).1 sa_nil (star_of h2)) (star_of h3)) (star_of h3) (by rw [star_of h2]; rfl)
          | [], _, h => simp [ckI] at h
          | [_], _, h => simp [ckI] at h
          | _ :: _ :: _ :: _, _, h => simp [ckI] at h
          | [_, _], _ :: _, h => simp [ckI] at h
        | _ => simp [ckI] at h
      | _ => simp [ckI] at h
    | _ => simp [ckI] at h
end
end
end TB
set_option Elab.async false
set_option linter.all false
set_option maxRecDepth 100000
set_option maxHeartbeats 4000000
/-! TB11: the look is sound: statements, defs -/
namespace TB
open PySem PySem.Spec L2
open PyProof.Rows (envOfC)

/-- the names of a pair of targets on one line -/
def parB (c : Ck) (x : Str) (px : Pos) (y : Str) (py : Pos) (a b : Expr) : Bool :=
  kindB c.sc x .local && kindB c.sc y .local && (py.line == px.line) && !(x == y) && notStar a && notStar b && !(foldedForSure 8 a && foldedForSure 8 b) && !(constantsAlone 8 a && constantsAlone 8 b)
def isTup : Expr → Bool
  | .Tuple _ _ _ => true
  | _ => false
def isName : Expr → Bool
  | .Name _ _ => true
  | _ => false
/-- a comprehension that is stored at once -/
def swB (c : Ck) (y : Str) (py : Pos) (scope : Scope) (p : Pos) : Bool := kindB c.sc y .local && (py.line == p.line) && !(scope.names.any fun (n, k) => n == y && (k == .local || k == .cell))
def asPar : List Expr → Expr → Option (Str × Pos × Str × Pos × Expr × Expr)
  | [.Tuple [.Name x px, .Name y py] _ _], .Tuple [va, vb] _ _ => some (x, px, y, py, va, vb)
  | _, _ => none
theorem asPar_of {tgs : List Expr} {v : Expr} {x y : Str} {px py : Pos} {va vb : Expr} (h : asPar tgs v = some (x, px, y, py, va, vb)) : ∃ kt pt k2 pt2, tgs = [.Tuple [.Name x px, .Name y py] kt pt] ∧ v = .Tuple [va, vb] k2 pt2 := by
  unfold asPar at h
  split at h
  · cases h; exact ⟨_, _, _, _, rfl, rfl⟩
  · cases h
def par3B (c : Ck) (x : Str) (px : Pos) (y : Str) (py : Pos) (z : Str) (pz : Pos) (a b d : Expr) : Bool :=
  kindB c.sc x .local && kindB c.sc y .local && kindB c.sc z .local && (py.line == px.line) && (pz.line == px.line) && !(x == y) && !(x == z) && !(y == z) && notStar a && notStar b && notStar d && !(foldedForSure 8 a && (foldedForSure 8 b && foldedForSure 8 d)) && !(constantsAlone 8 a && (constantsAlone 8 b && constantsAlone 8 d))
structure P3 where
  x : Str
  px : Pos
  y : Str
  py : Pos
  z : Str
  pz : Pos
  a : Expr
  b : Expr
  d : Expr
def asPar3 : List Expr → Expr → Option P3
  | [.Tuple [.Name x px, .Name y py, .Name z pz] _ _], .Tuple [va, vb, vc] _ _ => some ⟨x, px, y, py, z, pz, va, vb, vc⟩
  | _, _ => none
theorem asPar3_of {tgs : List Expr} {v : Expr} {q : P3} (h : asPar3 tgs v = some q) : ∃ kt pt k2 pt2, tgs = [.Tuple [.Name q.x q.px, .Name q.y q.py, .Name q.z q.pz] kt pt] ∧ v = .Tuple [q.a, q.b, q.d] k2 pt2 := by
  unfold asPar3 at h
  split at h
  · cases h; exact ⟨_, _, _, _, rfl, rfl⟩
  · cases h
/-- a tuple of names that is stored from the left -/
def swNone (sc : Scope) : Expr → Expr → Bool
  | .Tuple ts _ _, .Tuple vs _ _ => !(ts.length == 2 || ts.length == 3) || ts.any (fun t => match t with | .Name x _ => !(kindB sc x .local) | _ => true) || vs.all (foldedForSure 8)
  | _, _ => false
def asgB (c : Ck) (t : Tg) (e : E) (tg v : Expr) : Bool := match t, e, tg, v with
  | .one i, .lc m own t2 it cd el, .Name y py, .ListComp e1 gens scope p => (decide (c.N[i]? = some y) && swB c y py scope p && ckE c (.lc m own t2 it cd el) (.ListComp e1 gens scope p)) || (kindB c.sc y .cell && tgB c (.one i) (.Name y py) && ckE c (.lc m own t2 it cd el) (.ListComp e1 gens scope p))
  | _, _, _, _ => (notComp v || isTup tg) && (isName tg || !(isTup v) || swNone c.sc tg v) && tgB c t tg && ckE c e v
mutual
def ckS (c : Ck) : S → Stmt → Bool
  | .bad, _ => true
  | .pass, .Pass _ => true
  | .brk, .Break _ => true
  | .cont, .Continue _ => true
  | .expr e, .Expr v _ => notComp v && ckE c e v
  | .ret e, .Return (some v) _ => ckE c e v
  | .asg t e, .Assign [tg] v _ => asgB c t e tg v
  | .par i j a b, .Assign tgs v _ => (match asPar tgs v with
    | some (x, px, y, py, va, vb) => decide (c.N[i]? = some x) && decide (c.N[j]? = some y) && parB c x px y py va vb && ckE c a va && ckE c b vb
    | none => false)
  | .par3 i j l a b d, .Assign tgs v _ => (match asPar3 tgs v with
    | some q => decide (c.N[i]? = some q.x) && decide (c.N[j]? = some q.y) && decide (c.N[l]? = some q.z) && par3B c q.x q.px q.y q.py q.z q.pz q.a q.b q.d && ckE c a q.a && ckE c b q.b && ckE c d q.d
    | none => false)
  | .ife q a b, .If e sa sb _ => ckE c q e && ckSs c a sa && ckSs c b sb
  | .for_ t it b, .For tg iter body [] _ => notSet iter && ckI c it tg iter && tgB c t tg && ckSs c b body
  | .whl _ q b, .While e body [] _ => ckE c q e && ckSs c b body
  | _, _ => false
def ckSs (c : Ck) : Ss → List Stmt → Bool
  | .nil, [] => true
  | .cons s ss, v :: vs => ckS c s v && ckSs c ss vs
  | _, _ => false
end

section
variable {gf : Str → Option Addr} {k : Nat} {cf : Str → List D → M D} {gc : Str → Option D}
theorem swaps_of {v : Expr} {t : Option Expr} {l : Nat} {env : Env} (h : notComp v = true) : swapsWith v t l env = pure false := by
  cases v <;> first | rfl | cases h
theorem swaps_of' {v t : Expr} {l : Nat} {env : Env} (h : (notComp v || isTup t) = true) : swapsWith v (some t) l env = pure false := by
  rcases Bool.or_eq_true_iff.mp h with h | h
  · exact swaps_of h
  · cases t <;> first | (cases h; done) | (cases v <;> rfl)
theorem fm_len {α β : Type} {f : α → Option β} : ∀ {l : List α}, (l.filterMap f).length = l.length → ∀ x ∈ l, f x ≠ none
  | [], _, _, h => by cases h
  | y :: l, e, x, h => by
    have le := List.length_filterMap_le f l
    cases hy : f y with
    | none => rw [List.filterMap_cons_none hy, List.length_cons] at e; omega
    | some z =>
      rw [List.filterMap_cons_some hy, List.length_cons, List.length_cons] at e
      rcases List.mem_cons.mp h with rfl | h
      · rw [hy]; exact fun z => by cases z
      · exact fm_len (by omega) x h
theorem swNone_of {tg v : Expr} {env : Env} {sc : Scope} (hsc : env.scope = sc) (h : swNone sc tg v = true) : swappedStores [tg] v env = pure none := by
  unfold swNone at h
  split at h
  · rename_i ts _ _ vs _ _
    unfold swappedStores
    dsimp only
    by_cases a1 : (!(ts.length == 2 || ts.length == 3) || vs.length != ts.length || env.blockKind != .function) = true
    · exact if_pos a1
    refine (if_neg a1).trans ?_
    by_cases a2 : (vs.any fun | .Starred .. => true | _ => false) = true
    · exact if_pos a2
    refine (if_neg a2).trans ?_
    by_cases a3 : ((ts.filterMap fun
    | .Name id pos => if env.kindOf id == some .local && pos.line == (ts.head?.map (·.pos.line)).getD 0 then some id else none
    | _ => none).length != ts.length || (ts.filterMap fun
    | .Name id pos => if env.kindOf id == some .local && pos.line == (ts.head?.map (·.pos.line)).getD 0 then some id else none
    | _ => none).eraseDups.length != (ts.filterMap fun
    | .Name id pos => if env.kindOf id == some .local && pos.line == (ts.head?.map (·.pos.line)).getD 0 then some id else none
    | _ => none).length) = true
    · exact if_pos a3
    refine (if_neg a3).trans ?_
    simp only [Bool.or_eq_true] at h
    rcases h with (h | h) | h
    · exfalso; apply a1; rw [h]; rfl
    · exfalso
      obtain ⟨t, ht, hb⟩ := List.any_eq_true.mp h
      simp only [Bool.or_eq_true, bne_iff_ne, ne_eq, not_or, Decidable.not_not] at a3
      have := fm_len a3.1 t ht
      apply this
      split
      · rename_i x p
        have hk : ¬ (env.kindOf x == some .local) = true := fun z => by
          have z := eq_of_beq z
          have : kindB sc x .local = true := decide_eq_true (by rw [← hsc]; exact z)
          simp [this] at hb
        simp [hk]
      · rfl
    · exact if_pos h
  · cases h
theorem stores_of {tg v : Expr} {env : Env} {sc : Scope} (hsc : env.scope = sc) (h : (isName tg || !(isTup v) || swNone sc tg v) = true) : swappedStores [tg] v env = pure none := by
  rcases Bool.or_eq_true_iff.mp h with h | h
  · cases tg <;> first | rfl | (cases v <;> first | rfl | cases h)
  · exact swNone_of hsc h
theorem each_of {tg : Expr} {c : Ck} {t : Tg} {env : Env} (h : tgB c t tg = true) : (assignEach [tg] env).map (·.2) = [assign tg env] := by
  cases tg <;> first | rfl | (cases t <;> simp [tgB] at h)
theorem par_of {c : Ck} {X : Cx} {W : WX} (o : Ok c X gf W k cf gc) (hk : X.env.scope.kind = .function) {x y : Str} {px py pt : Pos} {a b : Expr} {kt k2 : Nat} {pt2 : Pos} (h : parB c x px y py a b = true) :
    swappedStores [.Tuple [.Name x px, .Name y py] kt pt] (.Tuple [a, b] k2 pt2) X.env = pure (some [x, y]) := by
  unfold parB at h
  simp only [Bool.and_eq_true, Bool.not_eq_true'] at h
  obtain ⟨⟨⟨⟨⟨⟨⟨h1, h2⟩, h3⟩, h4⟩, h5⟩, h6⟩, h7⟩, h8⟩ := h
  have k1 : X.env.kindOf x = some .local := o.kind h1
  have k2 : X.env.kindOf y = some .local := o.kind h2
  have hb : X.env.blockKind = .function := by unfold Env.blockKind; rw [hk]; rfl
  have hxy : ¬ x = y := fun z => by subst z; simp at h4
  have hyx : ¬ y = x := fun z => hxy z.symm
  unfold swappedStores
  simp only [hb]
  refine (if_neg ?_).trans ((if_neg ?_).trans ((if_neg ?_).trans ((if_neg ?_).trans ((if_neg ?_).trans ?_))))
  · simp
  · cases a <;> first | (cases b <;> first | (simp; done) | (cases h6; done)) | (cases h5; done)
  · simp [k1, k2, Expr.pos, eq_of_beq h3, List.eraseDups_cons, hxy, hyx]
  · simpa using h7
  · simpa using h8
  · simp [k1, k2, Expr.pos, eq_of_beq h3]
theorem par3_of {c : Ck} {X : Cx} {W : WX} (o : Ok c X gf W k cf gc) (hk : X.env.scope.kind = .function) {x y z : Str} {px py pz pt : Pos} {a b d : Expr} {kt k2 : Nat} {pt2 : Pos} (h : par3B c x px y py z pz a b d = true) :
    swappedStores [.Tuple [.Name x px, .Name y py, .Name z pz] kt pt] (.Tuple [a, b, d] k2 pt2) X.env = pure (some [x, y, z]) := by
  unfold par3B at h
  simp only [Bool.and_eq_true, Bool.not_eq_true'] at h
  obtain ⟨⟨⟨⟨⟨⟨⟨⟨⟨⟨⟨⟨h1, h2⟩, h3⟩, h4⟩, h5⟩, h6⟩, h7⟩, h8⟩, h9⟩, h10⟩, h11⟩, h12⟩, h13⟩ := h
  have k1 : X.env.kindOf x = some .local := o.kind h1
  have k2 : X.env.kindOf y = some .local := o.kind h2
  have k3 : X.env.kindOf z = some .local := o.kind h3
  have hb : X.env.blockKind = .function := by unfold Env.blockKind; rw [hk]; rfl
  have hxy : ¬ x = y := fun z => by subst z; simp at h6
  have hyx : ¬ y = x := fun z => hxy z.symm
  have hxz : ¬ x = z := fun z => by subst z; simp at h7
  have hzx : ¬ z = x := fun z => hxz z.symm
  have hyz : ¬ y = z := fun z => by subst z; simp at h8
  have hzy : ¬ z = y := fun z => hyz z.symm
  unfold swappedStores
  simp only [hb]
  refine (if_neg ?_).trans ((if_neg ?_).trans ((if_neg ?_).trans ((if_neg ?_).trans ((if_neg ?_).trans ?_))))
  · simp
  · cases a <;> first | (cases b <;> first | (cases d <;> first | (simp; done) | (cases h11; done)) | (cases h10; done)) | (cases h9; done)
  · simp [k1, k2, k3, Expr.pos, eq_of_beq h4, eq_of_beq h5, List.eraseDups_cons, hxy, hyx, hxz, hzx, hyz, hzy]
  · simpa using h12
  · simpa using h13
  · simp [k1, k2, k3, Expr.pos, eq_of_beq h4, eq_of_beq h5]
end
end TB
set_option Elab.async false
set_option linter.all false
set_option maxRecDepth 100000
set_option maxHeartbeats 4000000
/-! TB12: statements, a table of defs, the law's end -/
namespace TB
open PySem PySem.Spec L2
open PyProof.Rows (envOfC)
section
variable {gf : Str → Option Addr} {k : Nat} {cf : Str → List D → M D} {gc : Str → Option D}
theorem asg_plain {c : Ck} {X : Cx} {W : WX} (o : Ok c X gf W k cf gc) {t : Tg} {e : E} {tg v : Expr} {p : Pos} (h : ((notComp v || isTup tg) && (isName tg || !(isTup v) || swNone c.sc tg v) && tgB c t tg && ckE c e v) = true) : SS X gf W (.Assign [tg] v p) (sAsg t (ev cf gc e)) := by
  obtain ⟨h, h2⟩ := band h
  obtain ⟨h, h3⟩ := band h
  obtain ⟨h, h4⟩ := band h
  exact ss_asg (sndE e v c X W o h2).1 (tg_of o h3) (swaps_of' h) (stores_of o.sc h4) (each_of h3)
theorem swaps_cell {e1 : Expr} {gens : List Comprehension} {scope : Scope} {p1 py : Pos} {y : Str} {l : Nat} {env : Env} (h : env.scope.names.lookup y = some .cell) : swapsWith (.ListComp e1 gens scope p1) (some (.Name y py)) l env = pure false := by
  have e : (env.kindOf y == some .local) = false := by unfold Env.kindOf; rw [h]; rfl
  unfold swapsWith
  dsimp only
  show pure _ = _
  rw [e]
  simp
theorem asg_sound {c : Ck} {X : Cx} {W : WX} (o : Ok c X gf W k cf gc) (hk : X.env.scope.kind = .function) {t : Tg} {e : E} {tg v : Expr} {p : Pos} (h : asgB c t e tg v = true) : SS X gf W (.Assign [tg] v p) (sAsg t (ev cf gc e)) := by
  unfold asgB at h
  split at h
  · rename_i i m own t2 it cd el y py e1 gens scope p1
    rcases Bool.or_eq_true_iff.mp h with h | h
    case inr =>
      obtain ⟨h, h2⟩ := band h
      obtain ⟨h1, h3⟩ := band h
      exact ss_asg (sndE _ _ c X W o h2).1 (tg_of o h3) (swaps_cell (l := p.line) (o.kind h1)) (stores_of (tg := .Name y py) o.sc rfl) (each_of h3)
    obtain ⟨h, h2⟩ := band h
    obtain ⟨h0, h3⟩ := band h
    have hy := of_decide_eq_true h0
    match gens, h2 with
    | [⟨tg2, iter, ifs, as⟩], h2 =>
      simp only [ckE] at h2
      obtain ⟨h2, q1⟩ := band h2
      obtain ⟨h2, q2⟩ := band h2
      obtain ⟨h2, q3⟩ := band h2
      obtain ⟨h2, q4⟩ := band h2
      obtain ⟨h2, q5⟩ := band h2
      obtain ⟨h2, q6⟩ := band h2
      obtain ⟨h2, q7⟩ := band h2
      have e8 := of_decide_eq_true h2
      subst e8
      unfold swB at h3
      obtain ⟨h3, w1⟩ := band h3
      obtain ⟨w2, w3⟩ := band h3
      have ob := fun s H C cl fp => o.blk s H scope cl C fp
      refine ss_setLc (own := own) o.calm (by rw [o.nN]; exact o.nd) (by rw [o.nN]; exact hy) (o.kind w2) (sw_true hk (o.kind w2) w3 (by simpa using w1)) (sndI it iter tg2 c X W o q4) (by rw [o.nN, o.sc]; exact blkOk_by q7) (fun i hi => ?_)
        (fun s H C cl fp => tg_of (ob s H C cl fp) q3) (fun s H C cl fp => sndC cd ifs _ _ _ (ob s H C cl fp) q2) (fun s H C cl fp => (sndE el e1 _ _ _ (ob s H C cl fp) q1).1) (fset_of q5)
      exact of_decide_eq_true (List.all_eq_true.mp q6 i (by cases t2 <;> exact hi))
    | [], h => simp [ckE] at h
    | _ :: _ :: _, h => simp [ckE] at h
  · exact asg_plain o h
theorem par_sound {c : Ck} {X : Cx} {W : WX} (o : Ok c X gf W k cf gc) (hk : X.env.scope.kind = .function) {i j : Nat} {a b : E} {tgs : List Expr} {v : Expr} {p : Pos} (h : (match asPar tgs v with
    | some (x, px, y, py, va, vb) => decide (c.N[i]? = some x) && decide (c.N[j]? = some y) && parB c x px y py va vb && ckE c a va && ckE c b vb
    | none => false) = true) : SS X gf W (.Assign tgs v p) (sPar i j (ev cf gc a) (ev cf gc b)) := by
  split at h
  · rename_i x px y py va vb hpar
    obtain ⟨kt, pt, k2, pt2, rfl, rfl⟩ := asPar_of hpar
    obtain ⟨h, h2⟩ := band h
    obtain ⟨h, h3⟩ := band h
    obtain ⟨h, h4⟩ := band h
    obtain ⟨h0, h5⟩ := band h
    have hx := of_decide_eq_true h0
    have hy := of_decide_eq_true h5
    have hp := h4
    unfold parB at h4
    simp only [Bool.and_eq_true, Bool.not_eq_true'] at h4
    obtain ⟨⟨⟨⟨⟨⟨⟨z1, z2⟩, z3⟩, z4⟩, z5⟩, z6⟩, z7⟩, z8⟩ := h4
    have hij : i ≠ j := fun z => by
      rw [← z, hx] at hy
      cases hy
      simp at z4
    exact ss_par o.calm (by rw [o.nN]; exact o.nd) (by rw [o.nN]; exact hx) (by rw [o.nN]; exact hy) hij (o.kind z1) (o.kind z2) (sndE a va c X W o h3).1 (sndE b vb c X W o h2).1 (par_of o hk hp) rfl (star_of z5) (star_of z6)
  · cases h
theorem par3_sound {c : Ck} {X : Cx} {W : WX} (o : Ok c X gf W k cf gc) (hk : X.env.scope.kind = .function) {i j l : Nat} {a b d : E} {tgs : List Expr} {v : Expr} {p : Pos} (h : (match asPar3 tgs v with
    | some q => decide (c.N[i]? = some q.x) && decide (c.N[j]? = some q.y) && decide (c.N[l]? = some q.z) && par3B c q.x q.px q.y q.py q.z q.pz q.a q.b q.d && ckE c a q.a && ckE c b q.b && ckE c d q.d
    | none => false) = true) : SS X gf W (.Assign tgs v p) (sPar3 i j l (ev cf gc a) (ev cf gc b) (ev cf gc d)) := by
  split at h
  · rename_i q hpar
    obtain ⟨kt, pt, k2, pt2, rfl, rfl⟩ := asPar3_of hpar
    obtain ⟨h, h2⟩ := band h
    obtain ⟨h, h3⟩ := band h
    obtain ⟨h, h4⟩ := band h
    obtain ⟨h, hp⟩ := band h
    obtain ⟨h, h5⟩ := band h
    obtain ⟨h0, h6⟩ := band h
    have hx := of_decide_eq_true h0
    have hy := of_decide_eq_true h6
    have hz := of_decide_eq_true h5
    have hp0 := hp
    unfold par3B at hp
    simp only [Bool.and_eq_true, Bool.not_eq_true'] at hp
    obtain ⟨⟨⟨⟨⟨⟨⟨⟨⟨⟨⟨⟨z1, z2⟩, z3⟩, z4⟩, z5⟩, z6⟩, z7⟩, z8⟩, z9⟩, z10⟩, z11⟩, z12⟩, z13⟩ := hp
    have hij : i ≠ j := fun z => by
      rw [← z, hx] at hy
      have := Option.some.inj hy
      rw [this] at z6; simp at z6
    have hil : i ≠ l := fun z => by
      rw [← z, hx] at hz
      have := Option.some.inj hz
      rw [this] at z7; simp at z7
    have hjl : j ≠ l := fun z => by
      rw [← z, hy] at hz
      have := Option.some.inj hz
      rw [this] at z8; simp at z8
    exact ss_par3 o.calm (by rw [o.nN]; exact o.nd) (by rw [o.nN]; exact hx) (by rw [o.nN]; exact hy) (by rw [o.nN]; exact hz) hij hil hjl (o.kind z1) (o.kind z2) (o.kind z3) (sndE a q.a c X W o h4).1 (sndE b q.b c X W o h3).1 (sndE d q.d c X W o h2).1 (par3_of o hk hp0) rfl (star_of z9) (star_of z10) (star_of z11)
  · cases h
mutual
theorem sndS : ∀ (a : S) (s : Stmt) (c : Ck) (X : Cx) (W : WX), Ok c X gf W k cf gc → X.env.scope.kind = .function → ckS c a s = true → SS X gf W s (exS cf gc a)
  | .bad, s, c, X, W, o, hk, h => ss_bad
  | .pass, s, c, X, W, o, hk, h => by cases s <;> simp only [ckS, Bool.false_eq_true] at h; exact ss_pass
  | .brk, s, c, X, W, o, hk, h => by cases s <;> simp only [ckS, Bool.false_eq_true] at h; exact ss_break
  | .cont, s, c, X, W, o, hk, h => by cases s <;> simp only [ckS, Bool.false_eq_true] at h; exact ss_cont
  | .expr e, s, c, X, W, o, hk, h => by
    cases s <;> simp only [ckS, Bool.false_eq_true] at h
    obtain ⟨h1, h2⟩ := band h
    exact ss_expr (sndE e _ c X W o h2).1 (swaps_of h1)
  | .ret e, s, c, X, W, o, hk, h => by
    cases s with
    | Return v p =>
      cases v <;> simp only [ckS, Bool.false_eq_true] at h
      exact ss_ret (sndE e _ c X W o h).1
    | _ => simp only [ckS, Bool.false_eq_true] at h
  | .asg t e, s, c, X, W, o, hk, h => by
    cases s with
    | Assign tgs v p =>
      match tgs, h with
      | [tg], h => simp only [ckS] at h; exact asg_sound o hk h
      | [], h => simp [ckS] at h
      | _ :: _ :: _, h => simp [ckS] at h
    | _ => simp only [ckS, Bool.false_eq_true] at h
  | .par i j a b, s, c, X, W, o, hk, h => by
    cases s <;> simp only [ckS, Bool.false_eq_true] at h
    exact par_sound o hk h
  | .par3 i j l a b d, s, c, X, W, o, hk, h => by
    cases s <;> simp only [ckS, Bool.false_eq_true] at h
    exact par3_sound o hk h
  | .ife q a b, s, c, X, W, o, hk, h => by
    cases s <;> simp only [ckS, Bool.false_eq_true] at h
    obtain ⟨h1, h2⟩ := band h
    obtain ⟨h3, h4⟩ := band h1
    exact ss_if (sndE q _ c X W o h3).2 (sndSs a _ c X W o hk h4) (sndSs b _ c X W o hk h2)
  | .for_ t it b, s, c, X, W, o, hk, h => by
    cases s with
    | For tg iter body orelse p =>
      cases orelse <;> simp only [ckS, Bool.false_eq_true] at h
      obtain ⟨h1, h2⟩ := band h
      obtain ⟨h3, h4⟩ := band h1
      obtain ⟨h5, h6⟩ := band h3
      exact ss_for o.own o.calm (sndI it iter tg c X W o h6) (tg_of o h4) (sndSs b _ c X W o hk h2) (fset_of h5)
    | _ => simp only [ckS, Bool.false_eq_true] at h
  | .whl n q b, s, c, X, W, o, hk, h => by
    cases s with
    | While e body orelse p =>
      cases orelse <;> simp only [ckS, Bool.false_eq_true] at h
      obtain ⟨h1, h2⟩ := band h
      exact ss_while o.own (sndE q _ c X W o h1).2 (sndSs b _ c X W o hk h2)
    | _ => simp only [ckS, Bool.false_eq_true] at h
theorem sndSs : ∀ (a : Ss) (s : List Stmt) (c : Ck) (X : Cx) (W : WX), Ok c X gf W k cf gc → X.env.scope.kind = .function → ckSs c a s = true → SSs X gf W s (exSs cf gc a)
  | .nil, [], c, X, W, o, hk, h => sss_nil
  | .nil, _ :: _, c, X, W, o, hk, h => by simp [ckSs] at h
  | .cons _ _, [], c, X, W, o, hk, h => by simp [ckSs] at h
  | .cons a as, s :: ss, c, X, W, o, hk, h => by
    simp only [ckSs] at h
    obtain ⟨h1, h2⟩ := band h
    exact sss_cons (sndS a s c X W o hk h1) (sndSs as ss c X W o hk h2)
end
end
end TB
set_option Elab.async false
set_option linter.all false
set_option maxRecDepth 100000
set_option maxHeartbeats 4000000
/-! TB13: a table of defs; the law's end -/
namespace TB
open PySem PySem.Spec L2
open PyProof.Rows (envOfC)

/-- a def of the small language -/
structure Def where
  name : Str
  ps : List Str
  N : List Str
  body : Ss
abbrev Tab := List Def
def Tab.get (T : Tab) (f : Str) : Option Def := T.find? fun d => d.name == f
/-- the defs of a table, calls at most n deep -/
noncomputable def cfN (T : Tab) (gc : Str → Option D) : Nat → Str → List D → M D
  | 0, _ => fun _ => M.stuck
  | n + 1, f => match T.get f with
    | none => fun _ => M.stuck
    | some d => fnRun d.N.length (exSs (cfN T gc n) gc d.body)
def Tab.fns (T : Tab) : List (Str × Nat) := T.map fun d => (d.name, d.ps.length)
def Tab.nd (T : Tab) : Bool := decide (T.map (·.name)).Nodup
/-- the scope of a def -/
def fscB (N ps : List Str) (sc : Scope) : Bool := (match sc.kind with | .function => true | _ => false) && !sc.isCoroutine && !sc.isGenerator && decide N.Nodup && decide (N.take ps.length = ps) && ps.all (fun x => kindB sc x .local || kindB sc x .cell) && sc.names.all (fun y => match y.2 with | .free => false | _ => true)
theorem fsc_of {N ps : List Str} {sc : Scope} (h : fscB N ps sc = true) : FnScope N ps sc := by
  unfold fscB at h
  simp only [Bool.and_eq_true, Bool.not_eq_true', decide_eq_true_eq, List.all_eq_true, Bool.or_eq_true] at h
  obtain ⟨⟨⟨⟨⟨⟨h1, h2⟩, h3⟩, h4⟩, h5⟩, h6⟩, h7⟩ := h
  refine ⟨?_, h2, h3, h4, h5, fun x hx => ?_, fun y hy e => ?_⟩
  · split at h1
    · assumption
    · cases h1
  · rcases h6 x hx with q | q
    · exact .inl (of_decide_eq_true q)
    · exact .inr (of_decide_eq_true q)
  · have := h7 y hy
    rw [e] at this
    cases this
/-- a def of the text, at a, is the def of the table -/
structure DefIs (T : Tab) (free con : List Str) (K : PySem.W.Frag) (mg : Str → Option Value) (d : Def) (a : Addr) (fd : FuncData) : Prop where
  ex : ∃ (oc : Value) (od : Option Addr) (name qual : Str) (params : Arguments) (body : List Stmt) (scope : Scope) (dV kV doc pm : Value) (an : Option Addr) (cdv ct : Value) (osl : Array (Option Value)),
    fd = PySem.W.fnOf name qual params body scope dV kV doc pm an cdv ct ∧ K.lookup a = some ⟨oc, od, .func (PySem.W.fnOf name qual params body scope dV kV doc pm an cdv ct), osl⟩ ∧ PySem.W.codeIn K cdv qual = true ∧ fscB d.N d.ps scope = true ∧ ckSs ⟨d.N, T.fns, free, con, scope, true⟩ d.body body = true
  kp : PySem.W.keepIn K (.ref a) = true
  gl : mg d.name = some (.ref a)
  bd : ∀ us : List Value, us.length = d.ps.length → bindArgs fd ⟨us, []⟩ = pure (d.ps.zip us)
def ConOk (K : PySem.W.Frag) (gf : Str → Option Addr) (mg : Str → Option Value) (x : Str) (d : D) : Prop := ∃ v u, mg x = some u ∧ RelV v u ∧ ∀ H al be, RV K gf H al be d v
section
variable {T : Tab} {free con : List Str} {K : PySem.W.Frag} {mg : Str → Option Value} {base : Heap} {P : Program} {w : World} {gf : Str → Option Addr} {gc : Str → Option D}
theorem get_of (hn : T.nd = true) {d : Def} (h : d ∈ T) : T.get d.name = some d := by
  unfold Tab.nd at hn
  replace hn := of_decide_eq_true hn
  unfold Tab.get
  induction T with
  | nil => cases h
  | cons e T ih =>
    rw [List.map_cons, List.nodup_cons] at hn
    rw [List.find?_cons]
    rcases List.mem_cons.mp h with rfl | h
    · simp
    · have : e.name ≠ d.name := fun z => hn.1 (z ▸ List.mem_map_of_mem h)
      have : (e.name == d.name) = false := beq_eq_false_iff_ne.mpr this
      rw [this]
      exact ih h hn.2
theorem all_ok (hn : T.nd = true) (hd : ∀ d ∈ T, ∃ a fd, DefIs T free con K mg d a fd) (hf : ∀ x ∈ free, mg x = none) (hc : ∀ x ∈ con, ∀ d, gc x = some d → ConOk K gf mg x d) :
    ∀ n, ∀ d ∈ T, ∀ a fd, DefIs T free con K mg d a fd → FnOk P w K mg base (L2.CX P w) (2 * n) a fd d.ps (spF K gf d.ps.length (cfN T gc n d.name))
  | 0, d, h, a, fd, di => by
    refine ⟨fun vs H Q E q => q.1, fun A outer s H args us vs Q E hr he hb hv hs => ?_⟩
    obtain ⟨_, al, be, st, ds, S, r, p⟩ := hs
    exact p.elim
  | n + 1, d, h, a, fd, di => by
    obtain ⟨oc, od, name, qual, params, body, scope, dV, kV, doc, pm, an, cdv, ct, osl, rfl, h1, h2, h6, h7⟩ := di.ex
    have S := fsc_of h6
    have e : cfN T gc (n + 1) d.name = fnRun d.N.length (exSs (cfN T gc n) gc d.body) := by
      show (match T.get d.name with | none => fun _ => M.stuck | some d => fnRun d.N.length (exSs (cfN T gc n) gc d.body)) = _
      rw [get_of hn h]
    rw [e]
    refine FnOk.mono (j := 2 * n + 1 + 1) (fn_sound h1 h2 S fun A outer s H E hr => ?_) (by omega)
    refine sndSs (k := 2 * n) d.body body ⟨d.N, T.fns, free, con, scope, true⟩ _ _ ?_ S.kind h7
    refine ⟨rfl, S.nd, rfl, rfl, hr.mono (by omega), takes_of rfl rfl rfl rfl, passes_of rfl, hf, fun f m hm => ?_, hc, fun _ _ => rfl⟩
    obtain ⟨d2, hd2, e2⟩ := List.mem_map.mp hm
    cases e2
    obtain ⟨a2, fd2, di2⟩ := hd d2 hd2
    exact ⟨a2, fd2, d2.ps, rfl, di2.gl, di2.kp, Binds.all di2.bd, all_ok hn hd hf hc n d2 hd2 a2 fd2 di2⟩
/-- the law -/
theorem law_sp {n : Nat} {K : PySem.W.Frag} (hpure : ∀ ns : List Int, ns.length ≤ 63 → ∃ st, cfN T gc n "law" [.scr ns] [] = some (.ok (.bl true), st)) (H : Hp) (a : Addr) (ns : List Int) (hl : ns.length ≤ 63) (hO : Only H) (hS : SqL K H a (ns.map V.int)) :
    spF K gf 1 (cfN T gc n "law") [.ref a] H (fun v _ => v = .bl true) fun _ _ _ => False := by
  obtain ⟨st, e⟩ := hpure ns hl
  refine ⟨rfl, [], [], [], [.scr ns], ⟨rfl, by simp, (fun b hb => by cases hb), (fun b hb => by cases hb), (fun i o a h => by simp at h)⟩, .cons (.scr ?_ ?_) .nil, ?_⟩
  · rcases hS with (h | h) | h
    · rcases hO a with z | ⟨ob, xs, z⟩ <;> (rw [h] at z; cases z)
    · exact .inl h
    · exact .inr h
  · exact Nat.le_trans hl (by decide)
  · rw [e]
    intro H1 al1 _ _ v r
    exact r.bl_inv
end
end TB
namespace TB
open PySem PySem.Spec L2
theorem defIs_of {T : Tab} {free con : List Str} {K : PySem.W.Frag} {mg : Str → Option Value} {d : Def} {x qual : Str} {params : Arguments} {body : List Stmt} {scope : Scope} {f : Addr} {fd : FuncData} (F : FunD K x qual params body scope [] [] f fd) (g : mg d.name = some (.ref f))
    (hb : ∀ (kV doc pm : Value) (an : Option Addr) (cdv ct : Value) (us : List Value), us.length = d.ps.length → bindArgs (PySem.W.fnOf x qual params body scope .none kV doc pm an cdv ct) ⟨us, []⟩ = pure (d.ps.zip us))
    (hc : (fscB d.N d.ps scope && ckSs ⟨d.N, T.fns, free, con, scope, true⟩ d.body body) = true) : ∃ a fd, DefIs T free con K mg d a fd := by
  obtain ⟨h1, h2⟩ := band hc
  obtain ⟨oc, od, dV, kV, doc, pm, an, cdv, ct, osl, rfl, lk, hcd, hD, hK⟩ := F.ex
  rcases hD with ⟨_, rfl⟩ | ⟨z, _⟩
  · exact ⟨f, _, ⟨oc, od, x, qual, params, body, scope, .none, kV, doc, pm, an, cdv, ct, osl, rfl, lk, hcd, h1, h2⟩, F.kp, g, hb kV doc pm an cdv ct⟩
  · exact absurd rfl z
theorem con_int {K : PySem.W.Frag} {gf : Str → Option Addr} {mg : Str → Option Value} {x : Str} {i : Int} (h : ∃ t, mg x = some (.int i t)) : ConOk K gf mg x (.int i) :=
  let ⟨t, h⟩ := h; ⟨.int i, .int i t, h, ⟨t, rfl⟩, fun _ _ _ => .int i⟩
theorem con_str {K : PySem.W.Frag} {gf : Str → Option Addr} {mg : Str → Option Value} {x z : Str} (h : ∃ t, mg x = some (.str z t)) (h1 : PyData.strOk z = true) (h2 : z.length ≤ sizeLine) : ConOk K gf mg x (.str z) :=
  let ⟨t, h⟩ := h; ⟨.str z, .str z t, h, ⟨t, rfl⟩, fun _ _ _ => .str h1 h2⟩
end TB
namespace L2
open PySem PySem.Spec PyProof.Rows
theorem TBwalk {l : PySem.W.OpenLaw} {n k : Nat} {q : Program} {loose : List Str} {XP : (Str → Option Value) → Heap → Prop} {YP : World → Heap → Prop} {d : DefRec} {x : Str}
    (hn : l.most = some n) (hn2 : n ≤ sizeLine) (hdf : d.params.defaults = []) (hr : Room k callerA)
    (F : ∀ (w : World) (mg : Str → Option Value) (fa : Addr) (h : Heap), YP w h → h.Ns mainGlobals mg → mg d.name = some (.ref fa) →
      ∃ (K : PySem.W.Frag) (fd : FuncData) (sp : Sp), K.In h ∧ (∀ (s : Shared) (u : Value), BindsTo s fd ⟨[u], []⟩ [(x, u)]) ∧
        (∀ (H : Hp) (a : Addr) (ns : List Int), ns.length ≤ n → Only H → SqL K H a (ns.map V.int) → sp [.ref a] H (fun v _ => v = .bl true) fun _ _ _ => False) ∧
        ∀ base : Heap, K.In base → base.Ns mainGlobals mg → FnOk l.prog w K mg base (L2.CX l.prog w) k fa fd [x] sp) :
    PySem.W.WalkO q loose XP YP l.row.toRowW d [] (fun f vs => PySem.call f vs) := by
  refine Att.attach_call hn hdf fun w s₀ s₁ mg mb fa o pm cd doc a vs ns G Y ho hd hcd hmg hobj hints hlen hg => ?_
  obtain ⟨K, fd, sp, KX, hb, hsp, hF⟩ := F w mg fa _ Y G.T.g hmg
  exact law_call KX G.T.g G.T.b G.T.builtins G.T.nolimit hg hobj hints (Nat.le_trans hlen hn2) hr hF hb (fun H hO hS => hsp H a ns hlen hO hS) fun H e s' h => by
    obtain ⟨_, _, _, _, _, _, _, _, _, _, _, _, z⟩ := h
    exact z
theorem TBroom {n : Nat} (hn : n ≤ 100) : Room (2 * n) callerA := Room.mono (k := 200) ⟨rfl, by decide, by decide⟩ (by omega)
end L2
set_option Elab.async false
set_option linter.all false
set_option maxRecDepth 100000
set_option maxHeartbeats 0
namespace TBP
open PySem PySem.Spec L2 TB
def b_joined : Def := ⟨"joined", ["one", "other"], ["one", "other", "word"],
  (.cons (.ret (.bin (.add false) (.var 0) (.blt .tuple (.lc false [("word", 2)] (.one 2) (.seq (.var 1)) (.some (.cmp .NotIn (.var 2) (.var 0))) (.var 2)))))
  .nil)⟩

def b_tries_in : Def := ⟨"tries_in", ["members", "ahead", "marks", "wants"], ["members", "ahead", "marks", "wants", "found", "one", "path", "mine", "need", "number", "deeds"],
  (.cons (.asg (.one 4) (.lst true .nil))
  (.cons (.for_ (.one 5) (.seq (.var 0))
   (.cons (.asg (.one 6) (.bin (.add false) (.var 1) (.idx (.var 5) (.int 1))))
   (.cons (.asg (.one 7) (.call "joined" 2 (.cons (.var 2) (.cons (.idx (.var 5) (.int 2)) .nil))))
   (.cons (.asg (.one 8) (.call "joined" 2 (.cons (.var 3) (.cons (.idx (.var 5) (.int 3)) .nil))))
   (.cons (.ife (.cmp .Eq (.idx (.var 5) (.int 0)) (.str "group"))
    (.cons (.expr (.bm .extend (.var 4) (.cons (.call "tries_in" 4 (.cons (.idx (.var 5) (.int 4)) (.cons (.bin (.add false) (.var 6) (.str "/")) (.cons (.var 7) (.cons (.var 8) .nil))))) .nil)))
    .nil)
    (.cons (.ife (.cmp .Eq (.idx (.var 5) (.int 0)) (.str "try"))
     (.cons (.expr (.bm .append (.var 4) (.cons (.tup (.cons (.var 6) (.cons (.var 1) (.cons (.var 7) (.cons (.var 8) (.cons (.idx (.var 5) (.int 4)) .nil)))))) .nil)))
     .nil)
     (.cons (.for_ (.one 9) (.seq (.idx (.var 5) (.int 5)))
      (.cons (.asg (.one 10) (.bin (.add false) (.tup (.cons (.tup (.cons (.str "set") (.cons (.idx (.var 5) (.int 4)) (.cons (.var 9) .nil)))) .nil)) (.idx (.var 5) (.int 6))))
      (.cons (.expr (.bm .append (.var 4) (.cons (.tup (.cons (.bin (.add false) (.bin (.add false) (.var 6) (.str "=")) (.blt .str (.var 9))) (.cons (.var 1) (.cons (.var 7) (.cons (.var 8) (.cons (.var 10) .nil)))))) .nil)))
      .nil)))
     .nil))
    .nil))
   .nil)))))
  (.cons (.ret (.var 4))
  .nil)))⟩

def b_tries_of : Def := ⟨"tries_of", ["book"], ["book"],
  (.cons (.ret (.call "tries_in" 4 (.cons (.idx (.var 0) (.int 1)) (.cons (.str "") (.cons (.tup .nil) (.cons (.tup .nil) .nil))))))
  .nil)⟩

def b_holds : Def := ⟨"holds", ["wish", "path", "marks"], ["wish", "path", "marks"],
  (.cons (.ife (.cmp .Eq (.idx (.var 0) (.int 0)) (.str "mark"))
   (.cons (.ret (.cmp .In (.idx (.var 0) (.int 1)) (.var 2)))
   .nil)
   .nil)
  (.cons (.ife (.cmp .Eq (.idx (.var 0) (.int 0)) (.str "name"))
   (.cons (.ret (.cmp .In (.idx (.var 0) (.int 1)) (.var 1)))
   .nil)
   .nil)
  (.cons (.ife (.cmp .Eq (.idx (.var 0) (.int 0)) (.str "not"))
   (.cons (.ret (.not (.call "holds" 3 (.cons (.idx (.var 0) (.int 1)) (.cons (.var 1) (.cons (.var 2) .nil))))))
   .nil)
   .nil)
  (.cons (.ife (.cmp .Eq (.idx (.var 0) (.int 0)) (.str "and"))
   (.cons (.ret (.band (.cons (.call "holds" 3 (.cons (.idx (.var 0) (.int 1)) (.cons (.var 1) (.cons (.var 2) .nil)))) (.cons (.call "holds" 3 (.cons (.idx (.var 0) (.int 2)) (.cons (.var 1) (.cons (.var 2) .nil)))) .nil))))
   .nil)
   .nil)
  (.cons (.ret (.bor (.cons (.call "holds" 3 (.cons (.idx (.var 0) (.int 1)) (.cons (.var 1) (.cons (.var 2) .nil)))) (.cons (.call "holds" 3 (.cons (.idx (.var 0) (.int 2)) (.cons (.var 1) (.cons (.var 2) .nil)))) .nil))))
  .nil)))))⟩

def b_chosen : Def := ⟨"chosen", ["book", "wish"], ["book", "wish", "one"],
  (.cons (.ret (.blt .tuple (.lc false [("one", 2)] (.one 2) (.seq (.call "tries_of" 1 (.cons (.var 0) .nil))) (.some (.call "holds" 3 (.cons (.var 1) (.cons (.idx (.var 2) (.int 0)) (.cons (.idx (.var 2) (.int 2)) .nil))))) (.idx (.var 2) (.int 0)))))
  .nil)⟩

def b_simple : Def := ⟨"simple", ["wish"], ["wish", "inner", "word"],
  (.cons (.ife (.cmp .In (.idx (.var 0) (.int 0)) (.tup (.cons (.str "mark") (.cons (.str "name") .nil))))
   (.cons (.ret (.var 0))
   .nil)
   .nil)
  (.cons (.ife (.cmp .NotEq (.idx (.var 0) (.int 0)) (.str "not"))
   (.cons (.ret (.tup (.cons (.idx (.var 0) (.int 0)) (.cons (.call "simple" 1 (.cons (.idx (.var 0) (.int 1)) .nil)) (.cons (.call "simple" 1 (.cons (.idx (.var 0) (.int 2)) .nil)) .nil)))))
   .nil)
   .nil)
  (.cons (.asg (.one 1) (.idx (.var 0) (.int 1)))
  (.cons (.ife (.cmp .In (.idx (.var 1) (.int 0)) (.tup (.cons (.str "mark") (.cons (.str "name") .nil))))
   (.cons (.ret (.var 0))
   .nil)
   .nil)
  (.cons (.ife (.cmp .Eq (.idx (.var 1) (.int 0)) (.str "not"))
   (.cons (.ret (.call "simple" 1 (.cons (.idx (.var 1) (.int 1)) .nil)))
   .nil)
   .nil)
  (.cons (.asg (.one 2) (.idx (.dsp [.inr "and", .inr "or"] (.cons (.str "or") (.cons (.str "and") .nil))) (.idx (.var 1) (.int 0))))
  (.cons (.ret (.tup (.cons (.var 2) (.cons (.call "simple" 1 (.cons (.tup (.cons (.str "not") (.cons (.idx (.var 1) (.int 1)) .nil))) .nil)) (.cons (.call "simple" 1 (.cons (.tup (.cons (.str "not") (.cons (.idx (.var 1) (.int 2)) .nil))) .nil)) .nil)))))
  .nil)))))))⟩

def b_parting : Def := ⟨"parting", ["book", "one", "other"], ["book", "one", "other", "path", "group", "marks", "wants", "deeds"],
  (.cons (.for_ (.tup [3, 4, 5, 6, 7]) (.seq (.call "tries_of" 1 (.cons (.var 0) .nil)))
   (.cons (.ife (.cmp .NotEq (.call "holds" 3 (.cons (.var 1) (.cons (.var 3) (.cons (.var 5) .nil)))) (.call "holds" 3 (.cons (.var 2) (.cons (.var 3) (.cons (.var 5) .nil)))))
    (.cons (.ret (.var 3))
    .nil)
    .nil)
   .nil))
  (.cons (.ret .non)
  .nil))⟩

def b_law_same : Def := ⟨"_law_same", ["got", "due"], ["got", "due", "one", "other"],
  (.cons (.ife (.cmp .Is (.var 1) .non)
   (.cons (.ret (.cmp .Is (.var 0) .non))
   .nil)
   .nil)
  (.cons (.ife (.isi .bool (.var 1))
   (.cons (.ret (.band (.cons (.isi .bool (.var 0)) (.cons (.cmp .Eq (.var 0) (.var 1)) .nil))))
   .nil)
   .nil)
  (.cons (.ife (.isi .tuple (.var 1))
   (.cons (.ife (.bor (.cons (.not (.isi .tuple (.var 0))) (.cons (.cmp .NotEq (.blt .len (.var 0)) (.blt .len (.var 1))) .nil)))
    (.cons (.ret (.bl false))
    .nil)
    .nil)
   (.cons (.ret (.blt .all (.lc false [("one", 2), ("other", 3)] (.tup [2, 3]) (.zip (.var 0) (.var 1)) .none (.call "_law_same" 2 (.cons (.var 2) (.cons (.var 3) .nil))))))
   .nil))
   .nil)
  (.cons (.ife (.isi .str (.var 1))
   (.cons (.ret (.band (.cons (.isi .str (.var 0)) (.cons (.cmp .Eq (.var 0) (.var 1)) .nil))))
   .nil)
   .nil)
  (.cons (.ret (.band (.cons (.isi .int (.var 0)) (.cons (.not (.isi .bool (.var 0))) (.cons (.cmp .Eq (.var 0) (.var 1)) .nil)))))
  .nil)))))⟩

def b_law_draw : Def := ⟨"_law_draw", ["script", "town", "many"], ["script", "town", "many", "k", "cell", "number", "more"],
  (.cons (.expr (.bm .append (.var 1) (.cons (.int 0) .nil)))
  (.cons (.asg (.one 3) (.blt .len (.var 1)))
  (.cons (.asg (.one 4) (.int 0))
  (.cons (.ife (.var 0)
   (.cons (.asg (.one 4) (.idx (.var 0) (.bin .mod (.var 3) (.blt .len (.var 0)))))
   .nil)
   .nil)
  (.cons (.asg (.one 5) (.bin .mod (.bin (.add false) (.var 4) (.bin (.mul false) (.int 104729) (.var 3))) (.int 4294967291)))
  (.cons (.asg (.one 5) (.bin .mod (.bin (.mul false) (.bin .mod (.bin (.mul false) (.var 5) (.var 5)) (.int 4294967279)) (.int 48271)) (.int 4294967291)))
  (.cons (.asg (.one 6) (.bin .mod (.bin (.mul false) (.bin .mod (.bin (.mul false) (.var 5) (.var 5)) (.int 4294967279)) (.int 69621)) (.int 4294967291)))
  (.cons (.ret (.bin .mod (.bin (.add false) (.bin (.mul false) (.bin .div (.var 5) (.int 64)) (.int 67108864)) (.bin .div (.var 6) (.int 64))) (.var 2)))
  .nil))))))))⟩

def b_law_pick : Def := ⟨"_law_pick", ["script", "town", "some"], ["script", "town", "some"],
  (.cons (.ret (.idx (.var 2) (.call "_law_draw" 3 (.cons (.var 0) (.cons (.var 1) (.cons (.blt .len (.var 2)) .nil))))))
  .nil)⟩

def b_law_mixed : Def := ⟨"_law_mixed", ["script", "town", "row"], ["script", "town", "row", "left", "got"],
  (.cons (.par 3 4 (.blt (.list true) (.var 2)) (.lst true .nil))
  (.cons (.whl 10000 (.var 3)
   (.cons (.expr (.bm .append (.var 4) (.cons (.bm .pop (.var 3) (.cons (.call "_law_draw" 3 (.cons (.var 0) (.cons (.var 1) (.cons (.blt .len (.var 3)) .nil)))) .nil)) .nil)))
   .nil))
  (.cons (.ret (.var 4))
  .nil)))⟩

def b_law_some : Def := ⟨"_law_some", ["script", "town", "row", "top"], ["script", "town", "row", "top", "got", "k", "one"],
  (.cons (.asg (.one 4) (.tup .nil))
  (.cons (.for_ (.one 5) (.rng1 (.bin (.mul false) (.call "_law_draw" 3 (.cons (.var 0) (.cons (.var 1) (.cons (.bin (.add false) (.var 3) (.int 1)) .nil)))) (.blt .int (.cmp .Gt (.blt .len (.var 2)) (.int 0)))))
   (.cons (.asg (.one 6) (.call "_law_pick" 3 (.cons (.var 0) (.cons (.var 1) (.cons (.var 2) .nil)))))
   (.cons (.asg (.one 4) (.bin (.add false) (.var 4) (.bin (.mul false) (.tup (.cons (.var 6) .nil)) (.blt .int (.cmp .NotIn (.var 6) (.var 4))))))
   .nil)))
  (.cons (.ret (.var 4))
  .nil)))⟩

def b_law_deeds : Def := ⟨"_law_deeds", ["script", "town", "top"], ["script", "town", "top", "got", "k", "kinds", "key", "number"],
  (.cons (.asg (.one 3) (.tup .nil))
  (.cons (.for_ (.one 4) (.rng1 (.call "_law_draw" 3 (.cons (.var 0) (.cons (.var 1) (.cons (.bin (.add false) (.var 2) (.int 1)) .nil)))))
   (.cons (.par 6 7 (.call "_law_pick" 3 (.cons (.var 0) (.cons (.var 1) (.cons (.str "kmn") .nil)))) (.bin .sub (.call "_law_draw" 3 (.cons (.var 0) (.cons (.var 1) (.cons (.int 4) .nil)))) (.int 1)))
   (.cons (.asg (.one 5) (.lst false (.cons (.tup (.cons (.str "set") (.cons (.var 6) (.cons (.var 7) .nil)))) (.cons (.tup (.cons (.str "add") (.cons (.var 6) (.cons (.var 7) .nil)))) (.cons (.tup (.cons (.str "add") (.cons (.var 6) (.cons (.var 7) .nil)))) (.cons (.tup (.cons (.str "ask") (.cons (.var 6) (.cons (.var 7) .nil)))) .nil))))))
   (.cons (.asg (.one 5) (.bin (.add false) (.var 5) (.lst false (.cons (.tup (.cons (.str "say") (.cons (.call "_law_pick" 3 (.cons (.var 0) (.cons (.var 1) (.cons (.lst false (.cons (.str "a") (.cons (.str "bc") (.cons (.str "d") .nil)))) .nil)))) .nil))) (.cons (.tup (.cons (.str "fail") .nil)) (.cons (.tup (.cons (.str "leave") .nil)) .nil))))))
   (.cons (.asg (.one 3) (.bin (.add false) (.var 3) (.tup (.cons (.idx (.var 5) (.call "_law_pick" 3 (.cons (.var 0) (.cons (.var 1) (.cons (.lst false (.cons (.int 0) (.cons (.int 1) (.cons (.int 2) (.cons (.int 3) (.cons (.int 3) (.cons (.int 4) (.cons (.int 4) (.cons (.int 4) (.cons (.int 0) (.cons (.int 1) (.cons (.int 5) (.cons (.int 6) .nil))))))))))))) .nil))))) .nil))))
   .nil)))))
  (.cons (.ret (.var 3))
  .nil)))⟩

def b_law_stages : Def := ⟨"_law_stages", ["script", "town"], ["script", "town", "got", "far", "name", "reach", "row", "wants", "ups", "one"],
  (.cons (.asg (.one 2) (.tup .nil))
  (.cons (.asg (.one 3) (.dsp [.inr "each", .inr "group", .inr "all"] (.cons (.int 0) (.cons (.int 1) (.cons (.int 2) .nil)))))
  (.cons (.for_ (.one 4) (.seq (.slc false (.call "_law_mixed" 3 (.cons (.var 0) (.cons (.var 1) (.cons (.tup (.cons (.str "p") (.cons (.str "q") (.cons (.str "r") (.cons (.str "s") (.cons (.str "tu") (.cons (.str "v") .nil))))))) .nil)))) .none (.some (.call "_law_draw" 3 (.cons (.var 0) (.cons (.var 1) (.cons (.int 7) .nil)))))))
   (.cons (.asg (.one 5) (.call "_law_pick" 3 (.cons (.var 0) (.cons (.var 1) (.cons (.lst false (.cons (.str "each") (.cons (.str "group") (.cons (.str "all") .nil)))) .nil)))))
   (.cons (.asg (.one 6) (.lc false [("one", 9)] (.one 9) (.seq (.var 2)) (.some (.cmp .GtE (.idx (.var 3) (.idx (.var 9) (.int 1))) (.idx (.var 3) (.var 5)))) (.idx (.var 9) (.int 0))))
   (.cons (.asg (.one 7) (.call "_law_some" 4 (.cons (.var 0) (.cons (.var 1) (.cons (.var 6) (.cons (.int 2) .nil))))))
   (.cons (.asg (.one 8) (.call "_law_deeds" 3 (.cons (.var 0) (.cons (.var 1) (.cons (.int 2) .nil)))))
   (.cons (.asg (.one 2) (.bin (.add false) (.var 2) (.tup (.cons (.tup (.cons (.var 4) (.cons (.var 5) (.cons (.var 7) (.cons (.var 8) (.cons (.call "_law_deeds" 3 (.cons (.var 0) (.cons (.var 1) (.cons (.int 2) .nil)))) .nil)))))) .nil))))
   .nil))))))
  (.cons (.ret (.var 2))
  .nil))))⟩

def b_law_member : Def := ⟨"_law_member", ["script", "town", "name", "names", "left"], ["script", "town", "name", "names", "left", "kind", "marks", "wants", "numbers"],
  (.cons (.par 6 7 (.call "_law_some" 4 (.cons (.var 0) (.cons (.var 1) (.cons (.lst false (.cons (.str "x") (.cons (.str "y") (.cons (.str "slow") .nil)))) (.cons (.int 2) .nil))))) (.call "_law_some" 4 (.cons (.var 0) (.cons (.var 1) (.cons (.var 3) (.cons (.int 2) .nil))))))
  (.cons (.asg (.one 5) (.call "_law_draw" 3 (.cons (.var 0) (.cons (.var 1) (.cons (.int 6) .nil)))))
  (.cons (.ife (.band (.cons (.cmp .Lt (.var 5) (.int 2)) (.cons (.cmp .Gt (.var 4) (.int 0)) .nil)))
   (.cons (.ret (.tup (.cons (.str "group") (.cons (.var 2) (.cons (.var 6) (.cons (.var 7) (.cons (.call "_law_members" 4 (.cons (.var 0) (.cons (.var 1) (.cons (.var 3) (.cons (.bin .sub (.var 4) (.int 1)) .nil))))) .nil)))))))
   .nil)
   .nil)
  (.cons (.ife (.cmp .Eq (.var 5) (.int 2))
   (.cons (.asg (.one 8) (.bor (.cons (.call "_law_some" 4 (.cons (.var 0) (.cons (.var 1) (.cons (.lst false (.cons (.int 0) (.cons (.int 1) (.cons (.int 2) (.cons (.neg (.int 3)) .nil))))) (.cons (.int 3) .nil))))) (.cons (.tup (.cons (.int 5) .nil)) .nil))))
   (.cons (.ret (.tup (.cons (.str "many") (.cons (.var 2) (.cons (.var 6) (.cons (.var 7) (.cons (.call "_law_pick" 3 (.cons (.var 0) (.cons (.var 1) (.cons (.str "km") .nil)))) (.cons (.var 8) (.cons (.call "_law_deeds" 3 (.cons (.var 0) (.cons (.var 1) (.cons (.int 2) .nil)))) .nil)))))))))
   .nil))
   .nil)
  (.cons (.ret (.tup (.cons (.str "try") (.cons (.var 2) (.cons (.var 6) (.cons (.var 7) (.cons (.call "_law_deeds" 3 (.cons (.var 0) (.cons (.var 1) (.cons (.int 3) .nil)))) .nil)))))))
  .nil)))))⟩

def b_law_members : Def := ⟨"_law_members", ["script", "town", "names", "left"], ["script", "town", "names", "left", "got", "name"],
  (.cons (.asg (.one 4) (.tup .nil))
  (.cons (.for_ (.one 5) (.seq (.slc false (.call "_law_mixed" 3 (.cons (.var 0) (.cons (.var 1) (.cons (.tup (.cons (.str "a") (.cons (.str "b") (.cons (.str "c") (.cons (.str "de") .nil))))) .nil)))) .none (.some (.call "_law_draw" 3 (.cons (.var 0) (.cons (.var 1) (.cons (.int 5) .nil)))))))
   (.cons (.asg (.one 4) (.bin (.add false) (.var 4) (.tup (.cons (.call "_law_member" 5 (.cons (.var 0) (.cons (.var 1) (.cons (.var 5) (.cons (.var 2) (.cons (.var 3) .nil)))))) .nil))))
   .nil))
  (.cons (.ret (.var 4))
  .nil)))⟩

def b_law_book : Def := ⟨"_law_book", ["script", "town"], ["script", "town", "stages", "names", "members", "one"],
  (.cons (.asg (.one 2) (.call "_law_stages" 2 (.cons (.var 0) (.cons (.var 1) .nil))))
  (.cons (.asg (.one 3) (.lc false [("one", 5)] (.one 5) (.seq (.var 2)) .none (.idx (.var 5) (.int 0))))
  (.cons (.asg (.one 4) (.call "_law_members" 4 (.cons (.var 0) (.cons (.var 1) (.cons (.var 3) (.cons (.int 2) .nil))))))
  (.cons (.ret (.tup (.cons (.var 2) (.cons (.bin (.add false) (.var 4) (.tup (.cons (.call "_law_member" 5 (.cons (.var 0) (.cons (.var 1) (.cons (.str "z") (.cons (.var 3) (.cons (.int 1) .nil)))))) .nil))) .nil))))
  .nil))))⟩

def b_law_both : Def := ⟨"_law_both", ["one", "other"], ["one", "other", "word"],
  (.cons (.ret (.bin (.add false) (.var 0) (.blt .tuple (.lc false [("word", 2)] (.one 2) (.seq (.var 1)) (.some (.cmp .NotIn (.var 2) (.var 0))) (.var 2)))))
  .nil)⟩

def b_law_tries : Def := ⟨"_law_tries", ["members", "ahead", "marks", "wants"], ["members", "ahead", "marks", "wants", "got", "one", "mine", "need", "number", "path"],
  (.cons (.asg (.one 4) (.lst true .nil))
  (.cons (.for_ (.one 5) (.seq (.var 0))
   (.cons (.par 6 7 (.call "_law_both" 2 (.cons (.var 2) (.cons (.idx (.var 5) (.int 2)) .nil))) (.call "_law_both" 2 (.cons (.var 3) (.cons (.idx (.var 5) (.int 3)) .nil))))
   (.cons (.ife (.cmp .Eq (.idx (.var 5) (.int 0)) (.str "group"))
    (.cons (.asg (.one 4) (.bin (.add true) (.var 4) (.call "_law_tries" 4 (.cons (.idx (.var 5) (.int 4)) (.cons (.bin (.add false) (.bin (.add false) (.var 1) (.idx (.var 5) (.int 1))) (.str "/")) (.cons (.var 6) (.cons (.var 7) .nil)))))))
    .nil)
    (.cons (.ife (.cmp .Eq (.idx (.var 5) (.int 0)) (.str "try"))
     (.cons (.expr (.bm .append (.var 4) (.cons (.tup (.cons (.bin (.add false) (.var 1) (.idx (.var 5) (.int 1))) (.cons (.var 1) (.cons (.var 6) (.cons (.var 7) (.cons (.idx (.var 5) (.int 4)) .nil)))))) .nil)))
     .nil)
     (.cons (.for_ (.one 8) (.seq (.idx (.var 5) (.int 5)))
      (.cons (.asg (.one 9) (.bin (.add false) (.bin (.add false) (.bin (.add false) (.var 1) (.idx (.var 5) (.int 1))) (.str "=")) (.blt .str (.var 8))))
      (.cons (.expr (.bm .append (.var 4) (.cons (.tup (.cons (.var 9) (.cons (.var 1) (.cons (.var 6) (.cons (.var 7) (.cons (.bin (.add false) (.tup (.cons (.tup (.cons (.str "set") (.cons (.idx (.var 5) (.int 4)) (.cons (.var 8) .nil)))) .nil)) (.idx (.var 5) (.int 6))) .nil)))))) .nil)))
      .nil)))
     .nil))
    .nil))
   .nil)))
  (.cons (.ret (.var 4))
  .nil)))⟩

def b_law_needs : Def := ⟨"_law_needs", ["book", "wants"], ["book", "wants", "rows", "order", "reach", "got", "todo", "name", "is_done", "one"],
  (.cons (.asg (.one 2) .bad)
  (.cons (.par 5 6 (.lst true .nil) (.lc true [("name", 7)] (.one 7) (.seq (.rev false (.var 1))) .none (.tup (.cons (.var 7) (.cons (.bl false) .nil)))))
  (.cons (.whl 10000 (.var 6)
   (.cons (.asg (.tup [7, 8]) (.bm .pop (.var 6) .nil))
   (.cons (.ife (.band (.cons (.var 8) (.cons (.cmp .NotIn (.var 7) (.var 5)) .nil)))
    (.cons (.expr (.bm .append (.var 5) (.cons (.var 7) .nil)))
    .nil)
    (.cons (.ife (.not (.var 8))
     (.cons (.asg (.one 6) (.bin (.add true) (.bin (.add false) (.var 6) (.lst false (.cons (.tup (.cons (.var 7) (.cons (.bl true) .nil))) .nil))) (.lc false [("one", 9)] (.one 9) (.seq (.rev false (.idx (.idx (.var 2) (.var 7)) (.int 2)))) .none (.tup (.cons (.var 9) (.cons (.bl false) .nil))))))
     .nil)
     .nil)
    .nil))
   .nil)))
  (.cons (.asg (.one 3) (.lst true .nil))
  (.cons (.for_ (.one 4) (.seq (.tup (.cons (.str "all") (.cons (.str "group") (.cons (.str "each") .nil)))))
   (.cons (.asg (.one 3) (.bin (.add false) (.var 3) (.lc false [("name", 7)] (.one 7) (.seq (.var 5)) (.some (.cmp .Eq (.idx (.idx (.var 2) (.var 7)) (.int 1)) (.var 4))) (.var 7))))
   .nil))
  (.cons (.ret (.blt .tuple (.var 3)))
  .nil))))))⟩

def b_law_try : Def := ⟨"_law_try", ["book", "path"], ["book", "path", "found", "one"],
  (.cons (.asg (.one 2) (.lc false [("one", 3)] (.one 3) (.seq (.call "_law_tries" 4 (.cons (.idx (.var 0) (.int 1)) (.cons (.str "") (.cons (.tup .nil) (.cons (.tup .nil) .nil)))))) (.some (.cmp .Eq (.idx (.var 3) (.int 0)) (.var 1))) (.var 3)))
  (.cons (.ret (.ite (.var 2) (.idx (.var 2) (.int 0)) .non))
  .nil))⟩

def b_law_wish : Def := ⟨"_law_wish", ["script", "town", "left"], ["script", "town", "left", "kind", "one"],
  (.cons (.asg (.one 3) (.call "_law_draw" 3 (.cons (.var 0) (.cons (.var 1) (.cons (.int 6) .nil)))))
  (.cons (.ife (.bor (.cons (.cmp .Lt (.var 2) (.int 2)) (.cons (.cmp .Lt (.var 3) (.int 2)) .nil)))
   (.cons (.ife (.cmp .Eq (.call "_law_draw" 3 (.cons (.var 0) (.cons (.var 1) (.cons (.int 2) .nil)))) (.int 0))
    (.cons (.ret (.tup (.cons (.str "mark") (.cons (.call "_law_pick" 3 (.cons (.var 0) (.cons (.var 1) (.cons (.lst false (.cons (.str "x") (.cons (.str "y") (.cons (.str "slow") (.cons (.str "no") .nil))))) .nil)))) .nil))))
    .nil)
    .nil)
   (.cons (.ret (.tup (.cons (.str "name") (.cons (.call "_law_pick" 3 (.cons (.var 0) (.cons (.var 1) (.cons (.lst false (.cons (.str "a") (.cons (.str "b") (.cons (.str "de") (.cons (.str "z") (.cons (.str "e") (.cons (.str "q") .nil))))))) .nil)))) .nil))))
   .nil))
   .nil)
  (.cons (.ife (.cmp .Eq (.var 3) (.int 2))
   (.cons (.ret (.tup (.cons (.str "not") (.cons (.call "_law_wish" 3 (.cons (.var 0) (.cons (.var 1) (.cons (.bin .sub (.var 2) (.int 1)) .nil)))) .nil))))
   .nil)
   .nil)
  (.cons (.asg (.one 4) (.call "_law_wish" 3 (.cons (.var 0) (.cons (.var 1) (.cons (.bin .sub (.var 2) (.int 1)) .nil)))))
  (.cons (.ret (.tup (.cons (.call "_law_pick" 3 (.cons (.var 0) (.cons (.var 1) (.cons (.lst false (.cons (.str "and") (.cons (.str "or") .nil))) .nil)))) (.cons (.var 4) (.cons (.call "_law_wish" 3 (.cons (.var 0) (.cons (.var 1) (.cons (.bin .sub (.var 2) (.int 1)) .nil)))) .nil)))))
  .nil)))))⟩

def b_law_holds : Def := ⟨"_law_holds", ["wish", "path", "marks"], ["wish", "path", "marks", "some", "one"],
  (.cons (.ife (.cmp .In (.idx (.var 0) (.int 0)) (.tup (.cons (.str "mark") (.cons (.str "name") .nil))))
   (.cons (.ret (.ite (.cmp .Eq (.idx (.var 0) (.int 0)) (.str "mark")) (.cmp .In (.idx (.var 0) (.int 1)) (.var 2)) (.cmp .In (.idx (.var 0) (.int 1)) (.var 1))))
   .nil)
   .nil)
  (.cons (.asg (.one 3) (.lc false [("one", 4)] (.one 4) (.seq (.slc false (.var 0) (.some (.int 1)) .none)) .none (.call "_law_holds" 3 (.cons (.var 4) (.cons (.var 1) (.cons (.var 2) .nil))))))
  (.cons (.ife (.cmp .Eq (.idx (.var 0) (.int 0)) (.str "not"))
   (.cons (.ret (.not (.idx (.var 3) (.int 0))))
   .nil)
   .nil)
  (.cons (.ret (.ite (.cmp .Eq (.idx (.var 0) (.int 0)) (.str "and")) (.band (.cons (.idx (.var 3) (.int 0)) (.cons (.idx (.var 3) (.int 1)) .nil))) (.bor (.cons (.idx (.var 3) (.int 0)) (.cons (.idx (.var 3) (.int 1)) .nil)))))
  .nil))))⟩

def b_law_is_simple : Def := ⟨"_law_is_simple", ["wish"], ["wish"],
  (.cons (.ife (.cmp .In (.idx (.var 0) (.int 0)) (.tup (.cons (.str "mark") (.cons (.str "name") .nil))))
   (.cons (.ret (.bl true))
   .nil)
   .nil)
  (.cons (.ife (.cmp .Eq (.idx (.var 0) (.int 0)) (.str "not"))
   (.cons (.ret (.cmp .In (.idx (.idx (.var 0) (.int 1)) (.int 0)) (.tup (.cons (.str "mark") (.cons (.str "name") .nil)))))
   .nil)
   .nil)
  (.cons (.ret (.band (.cons (.call "_law_is_simple" 1 (.cons (.idx (.var 0) (.int 1)) .nil)) (.cons (.call "_law_is_simple" 1 (.cons (.idx (.var 0) (.int 2)) .nil)) .nil))))
  .nil)))⟩

def b_law_simple : Def := ⟨"_law_simple", ["wish", "is_not"], ["wish", "is_not", "sign"],
  (.cons (.ife (.cmp .In (.idx (.var 0) (.int 0)) (.tup (.cons (.str "mark") (.cons (.str "name") .nil))))
   (.cons (.ret (.ite (.var 1) (.tup (.cons (.str "not") (.cons (.var 0) .nil))) (.var 0)))
   .nil)
   .nil)
  (.cons (.ife (.cmp .Eq (.idx (.var 0) (.int 0)) (.str "not"))
   (.cons (.ret (.call "_law_simple" 2 (.cons (.idx (.var 0) (.int 1)) (.cons (.not (.var 1)) .nil))))
   .nil)
   .nil)
  (.cons (.asg (.one 2) (.ite (.not (.var 1)) (.idx (.var 0) (.int 0)) (.idx (.dsp [.inr "and", .inr "or"] (.cons (.str "or") (.cons (.str "and") .nil))) (.idx (.var 0) (.int 0)))))
  (.cons (.ret (.tup (.cons (.var 2) (.cons (.call "_law_simple" 2 (.cons (.idx (.var 0) (.int 1)) (.cons (.var 1) .nil))) (.cons (.call "_law_simple" 2 (.cons (.idx (.var 0) (.int 2)) (.cons (.var 1) .nil))) .nil)))))
  .nil))))⟩

def b_law : Def := ⟨"law", ["script"], ["script", "town", "k", "book", "every", "first", "second", "both", "some", "rest", "said", "less", "third", "apart", "one", "other", "row", "path"],
  (.cons (.asg (.one 1) (.lst true .nil))
  (.cons (.for_ (.one 2) (.rng1 (.int 6))
   (.cons (.asg (.one 3) (.call "_law_book" 2 (.cons (.var 0) (.cons (.var 1) .nil))))
   (.cons (.asg (.one 4) (.call "_law_tries" 4 (.cons (.idx (.var 3) (.int 1)) (.cons (.str "") (.cons (.tup .nil) (.cons (.tup .nil) .nil))))))
   (.cons (.asg (.tup [14, 15]) (.tup (.cons (.call "_law_wish" 3 (.cons (.var 0) (.cons (.var 1) (.cons (.int 5) .nil)))) (.cons (.call "_law_wish" 3 (.cons (.var 0) (.cons (.var 1) (.cons (.int 5) .nil)))) .nil))))
   (.cons (.asg (.one 5) (.lc false [("row", 16)] (.one 16) (.seq (.var 4)) (.some (.call "_law_holds" 3 (.cons (.var 14) (.cons (.idx (.var 16) (.int 0)) (.cons (.idx (.var 16) (.int 2)) .nil))))) (.idx (.var 16) (.int 0))))
   (.cons (.asg (.one 6) (.lc false [("row", 16)] (.one 16) (.seq (.var 4)) (.some (.call "_law_holds" 3 (.cons (.var 15) (.cons (.idx (.var 16) (.int 0)) (.cons (.idx (.var 16) (.int 2)) .nil))))) (.idx (.var 16) (.int 0))))
   (.cons (.ife (.not (.call "_law_same" 2 (.cons (.tup (.cons (.call "chosen" 2 (.cons (.var 3) (.cons (.var 14) .nil))) (.cons (.call "chosen" 2 (.cons (.var 3) (.cons (.var 15) .nil))) .nil))) (.cons (.tup (.cons (.blt .tuple (.var 5)) (.cons (.blt .tuple (.var 6)) .nil))) .nil))))
    (.cons (.ret (.bl false))
    .nil)
    .nil)
   (.cons (.asg (.one 7) (.blt .tuple (.lc false [("path", 17)] (.one 17) (.seq (.var 5)) (.some (.cmp .In (.var 17) (.var 6))) (.var 17))))
   (.cons (.asg (.one 8) (.blt .tuple (.lc false [("row", 16)] (.one 16) (.seq (.var 4)) (.some (.bor (.cons (.cmp .In (.idx (.var 16) (.int 0)) (.var 5)) (.cons (.cmp .In (.idx (.var 16) (.int 0)) (.var 6)) .nil)))) (.idx (.var 16) (.int 0)))))
   (.cons (.asg (.one 9) (.blt .tuple (.lc false [("row", 16)] (.one 16) (.seq (.var 4)) (.some (.cmp .NotIn (.idx (.var 16) (.int 0)) (.var 5))) (.idx (.var 16) (.int 0)))))
   (.cons (.asg (.one 10) (.tup (.cons (.call "chosen" 2 (.cons (.var 3) (.cons (.tup (.cons (.str "and") (.cons (.var 14) (.cons (.var 15) .nil)))) .nil))) (.cons (.call "chosen" 2 (.cons (.var 3) (.cons (.tup (.cons (.str "or") (.cons (.var 14) (.cons (.var 15) .nil)))) .nil))) (.cons (.call "chosen" 2 (.cons (.var 3) (.cons (.tup (.cons (.str "not") (.cons (.var 14) .nil))) .nil))) .nil)))))
   (.cons (.ife (.not (.call "_law_same" 2 (.cons (.var 10) (.cons (.tup (.cons (.var 7) (.cons (.var 8) (.cons (.var 9) .nil)))) .nil))))
    (.cons (.ret (.bl false))
    .nil)
    .nil)
   (.cons (.asg (.one 11) (.call "simple" 1 (.cons (.var 14) .nil)))
   (.cons (.asg (.one 12) (.call "_law_wish" 3 (.cons (.var 0) (.cons (.var 1) (.cons (.int 4) .nil)))))
   (.cons (.ife (.not (.call "_law_same" 2 (.cons (.call "simple" 1 (.cons (.tup (.cons (.str "not") (.cons (.tup (.cons (.str "not") (.cons (.var 12) .nil))) .nil))) .nil)) (.cons (.call "_law_simple" 2 (.cons (.var 12) (.cons (.bl false) .nil))) .nil))))
    (.cons (.ret (.bl false))
    .nil)
    .nil)
   (.cons (.ife (.bor (.cons (.not (.call "_law_same" 2 (.cons (.var 11) (.cons (.call "_law_simple" 2 (.cons (.var 14) (.cons (.bl false) .nil))) .nil)))) (.cons (.not (.call "_law_is_simple" 1 (.cons (.var 11) .nil))) (.cons (.cmp .NotEq (.call "simple" 1 (.cons (.var 11) .nil)) (.var 11)) .nil))))
    (.cons (.ret (.bl false))
    .nil)
    .nil)
   (.cons (.ife (.bor (.cons (.cmp .NotEq (.call "chosen" 2 (.cons (.var 3) (.cons (.var 11) .nil))) (.blt .tuple (.var 5))) (.cons (.cmp .IsNot (.call "parting" 3 (.cons (.var 3) (.cons (.var 14) (.cons (.var 11) .nil)))) .non) .nil)))
    (.cons (.ret (.bl false))
    .nil)
    .nil)
   (.cons (.asg (.one 13) (.lc false [("path", 17)] (.one 17) (.seq (.var 8)) (.some (.cmp .NotIn (.var 17) (.var 7))) (.var 17)))
   (.cons (.ife (.not (.call "_law_same" 2 (.cons (.call "parting" 3 (.cons (.var 3) (.cons (.var 14) (.cons (.var 15) .nil)))) (.cons (.ite (.var 13) (.idx (.var 13) (.int 0)) .non) .nil))))
    (.cons (.ret (.bl false))
    .nil)
    .nil)
   (.cons (.ife (.not (.call "_law_same" 2 (.cons (.call "parting" 3 (.cons (.var 3) (.cons (.var 15) (.cons (.var 14) .nil)))) (.cons (.ite (.var 13) (.idx (.var 13) (.int 0)) .non) .nil))))
    (.cons (.ret (.bl false))
    .nil)
    .nil)
   .nil))))))))))))))))))))
  (.cons (.ret (.bl true))
  .nil)))⟩

def T : Tab := [b_joined, b_tries_in, b_tries_of, b_holds, b_chosen, b_simple, b_parting, b_law_same, b_law_draw, b_law_pick, b_law_mixed, b_law_some, b_law_deeds, b_law_stages, b_law_member, b_law_members, b_law_book, b_law_both, b_law_tries, b_law_needs, b_law_try, b_law_wish, b_law_holds, b_law_is_simple, b_law_simple, b_law]
def gcl : List (Str × D) := []
def gc (x : Str) : Option D := gcl.lookup x
def top (i : Nat) : Stmt := PySem.Challenge.pw_trybook_k09_whole_tries_chosen.main.body.getD i (.Pass ⟨0, 0, 0, 0⟩)
def mkD (x : Str) (i : Nat) : He.DefD := ⟨(x, none), x, x, defArgs (top i), defBody (top i), defScope (top i), [], []⟩
def fn : List He.DefD := [mkD "joined" 1, mkD "tries_in" 2, mkD "tries_of" 3, mkD "holds" 5, mkD "chosen" 6, mkD "simple" 7, mkD "parting" 8, mkD "_law_same" 10, mkD "_law_draw" 11, mkD "_law_pick" 12, mkD "_law_mixed" 13, mkD "_law_some" 14, mkD "_law_deeds" 15, mkD "_law_stages" 16, mkD "_law_member" 17, mkD "_law_members" 18, mkD "_law_book" 19, mkD "_law_both" 20, mkD "_law_tries" 21, mkD "_law_needs" 22, mkD "_law_try" 23, mkD "_law_wish" 24, mkD "_law_holds" 25, mkD "_law_is_simple" 26, mkD "_law_simple" 27, mkD "law" 28]
def fa : List He.Fa := [.glo "joined", .glo "tries_in", .glo "tries_of", .glo "holds", .glo "chosen", .glo "simple", .glo "parting", .glo "_law_same", .glo "_law_draw", .glo "_law_pick", .glo "_law_mixed", .glo "_law_some", .glo "_law_deeds", .glo "_law_stages", .glo "_law_member", .glo "_law_members", .glo "_law_book", .glo "_law_both", .glo "_law_tries", .glo "_law_needs", .glo "_law_try", .glo "_law_wish", .glo "_law_holds", .glo "_law_is_simple", .glo "_law_simple", .glo "law", .free "len", .free "isinstance", .free "all", .free "any", .free "tuple", .free "list", .free "int", .free "str", .free "bool", .free "range", .free "sum", .free "sorted", .free "set", .free "dict", .free "enumerate", .free "zip", .free "min", .free "max", .free "repr"]
def free : List Str := ["len", "isinstance", "all", "any", "tuple", "list", "int", "str", "bool", "range", "sum", "sorted", "set", "dict", "enumerate", "zip", "min", "max", "repr"]
def con : List Str := []
abbrev R : PySem.W.OpenRow := PySem.W.OpenLaw.row PySem.Challenge.rw_trybook_k09_whole_tries_chosen
abbrev hk : PySem.W.Hook := He.hookD 4 fa fn
def ob (s : PySem.W.SharedT) : He.AlD := He.obsDG 4 fa fn (HandSHeadRun.getT s)
theorem ob_eq (s : PySem.W.SharedT) : ob s = hk.obs s.abs := He.obsDG_eq (HandSHeadRun.getT_eq s)
def loose0 : List Str := ["joined", "tries_in", "tries_of", "holds", "chosen", "simple", "parting", "_law_same", "_law_draw", "_law_pick", "_law_mixed", "_law_some", "_law_deeds", "_law_stages", "_law_member", "_law_members", "_law_book", "_law_both", "_law_tries", "_law_needs", "_law_try", "_law_wish", "_law_holds", "_law_is_simple", "_law_simple"]
def loose : List Str := loose0
theorem run (w : World) : HandSHeadRun.RunEq R (PySem.W.view R.prog [28]) hk ob 6000 loose w := by
  intro os
  kernel_rfl
theorem ck0 : (fscB b_joined.N b_joined.ps (defScope (top 1)) && ckSs ⟨b_joined.N, T.fns, free, con, defScope (top 1), true⟩ b_joined.body (defBody (top 1))) = true := by decide +kernel
theorem ck1 : (fscB b_tries_in.N b_tries_in.ps (defScope (top 2)) && ckSs ⟨b_tries_in.N, T.fns, free, con, defScope (top 2), true⟩ b_tries_in.body (defBody (top 2))) = true := by decide +kernel
theorem ck2 : (fscB b_tries_of.N b_tries_of.ps (defScope (top 3)) && ckSs ⟨b_tries_of.N, T.fns, free, con, defScope (top 3), true⟩ b_tries_of.body (defBody (top 3))) = true := by decide +kernel
theorem ck3 : (fscB b_holds.N b_holds.ps (defScope (top 5)) && ckSs ⟨b_holds.N, T.fns, free, con, defScope (top 5), true⟩ b_holds.body (defBody (top 5))) = true := by decide +kernel
theorem ck4 : (fscB b_chosen.N b_chosen.ps (defScope (top 6)) && ckSs ⟨b_chosen.N, T.fns, free, con, defScope (top 6), true⟩ b_chosen.body (defBody (top 6))) = true := by decide +kernel
theorem ck5 : (fscB b_simple.N b_simple.ps (defScope (top 7)) && ckSs ⟨b_simple.N, T.fns, free, con, defScope (top 7), true⟩ b_simple.body (defBody (top 7))) = true := by decide +kernel
theorem ck6 : (fscB b_parting.N b_parting.ps (defScope (top 8)) && ckSs ⟨b_parting.N, T.fns, free, con, defScope (top 8), true⟩ b_parting.body (defBody (top 8))) = true := by decide +kernel
theorem ck7 : (fscB b_law_same.N b_law_same.ps (defScope (top 10)) && ckSs ⟨b_law_same.N, T.fns, free, con, defScope (top 10), true⟩ b_law_same.body (defBody (top 10))) = true := by decide +kernel
theorem ck8 : (fscB b_law_draw.N b_law_draw.ps (defScope (top 11)) && ckSs ⟨b_law_draw.N, T.fns, free, con, defScope (top 11), true⟩ b_law_draw.body (defBody (top 11))) = true := by decide +kernel
theorem ck9 : (fscB b_law_pick.N b_law_pick.ps (defScope (top 12)) && ckSs ⟨b_law_pick.N, T.fns, free, con, defScope (top 12), true⟩ b_law_pick.body (defBody (top 12))) = true := by decide +kernel
theorem ck10 : (fscB b_law_mixed.N b_law_mixed.ps (defScope (top 13)) && ckSs ⟨b_law_mixed.N, T.fns, free, con, defScope (top 13), true⟩ b_law_mixed.body (defBody (top 13))) = true := by decide +kernel
theorem ck11 : (fscB b_law_some.N b_law_some.ps (defScope (top 14)) && ckSs ⟨b_law_some.N, T.fns, free, con, defScope (top 14), true⟩ b_law_some.body (defBody (top 14))) = true := by decide +kernel
theorem ck12 : (fscB b_law_deeds.N b_law_deeds.ps (defScope (top 15)) && ckSs ⟨b_law_deeds.N, T.fns, free, con, defScope (top 15), true⟩ b_law_deeds.body (defBody (top 15))) = true := by decide +kernel
theorem ck13 : (fscB b_law_stages.N b_law_stages.ps (defScope (top 16)) && ckSs ⟨b_law_stages.N, T.fns, free, con, defScope (top 16), true⟩ b_law_stages.body (defBody (top 16))) = true := by decide +kernel
theorem ck14 : (fscB b_law_member.N b_law_member.ps (defScope (top 17)) && ckSs ⟨b_law_member.N, T.fns, free, con, defScope (top 17), true⟩ b_law_member.body (defBody (top 17))) = true := by decide +kernel
theorem ck15 : (fscB b_law_members.N b_law_members.ps (defScope (top 18)) && ckSs ⟨b_law_members.N, T.fns, free, con, defScope (top 18), true⟩ b_law_members.body (defBody (top 18))) = true := by decide +kernel
theorem ck16 : (fscB b_law_book.N b_law_book.ps (defScope (top 19)) && ckSs ⟨b_law_book.N, T.fns, free, con, defScope (top 19), true⟩ b_law_book.body (defBody (top 19))) = true := by decide +kernel
theorem ck17 : (fscB b_law_both.N b_law_both.ps (defScope (top 20)) && ckSs ⟨b_law_both.N, T.fns, free, con, defScope (top 20), true⟩ b_law_both.body (defBody (top 20))) = true := by decide +kernel
theorem ck18 : (fscB b_law_tries.N b_law_tries.ps (defScope (top 21)) && ckSs ⟨b_law_tries.N, T.fns, free, con, defScope (top 21), true⟩ b_law_tries.body (defBody (top 21))) = true := by decide +kernel
theorem ck19 : (fscB b_law_needs.N b_law_needs.ps (defScope (top 22)) && ckSs ⟨b_law_needs.N, T.fns, free, con, defScope (top 22), true⟩ b_law_needs.body (defBody (top 22))) = true := by decide +kernel
theorem ck20 : (fscB b_law_try.N b_law_try.ps (defScope (top 23)) && ckSs ⟨b_law_try.N, T.fns, free, con, defScope (top 23), true⟩ b_law_try.body (defBody (top 23))) = true := by decide +kernel
theorem ck21 : (fscB b_law_wish.N b_law_wish.ps (defScope (top 24)) && ckSs ⟨b_law_wish.N, T.fns, free, con, defScope (top 24), true⟩ b_law_wish.body (defBody (top 24))) = true := by decide +kernel
theorem ck22 : (fscB b_law_holds.N b_law_holds.ps (defScope (top 25)) && ckSs ⟨b_law_holds.N, T.fns, free, con, defScope (top 25), true⟩ b_law_holds.body (defBody (top 25))) = true := by decide +kernel
theorem ck23 : (fscB b_law_is_simple.N b_law_is_simple.ps (defScope (top 26)) && ckSs ⟨b_law_is_simple.N, T.fns, free, con, defScope (top 26), true⟩ b_law_is_simple.body (defBody (top 26))) = true := by decide +kernel
theorem ck24 : (fscB b_law_simple.N b_law_simple.ps (defScope (top 27)) && ckSs ⟨b_law_simple.N, T.fns, free, con, defScope (top 27), true⟩ b_law_simple.body (defBody (top 27))) = true := by decide +kernel
theorem ck25 : (fscB b_law.N b_law.ps (defScope (top 28)) && ckSs ⟨b_law.N, T.fns, free, con, defScope (top 28), true⟩ b_law.body (defBody (top 28))) = true := by decide +kernel
theorem nd : T.nd = true := by decide +kernel
theorem all_def {K : PySem.W.Frag} {h : Heap} {mg : Str → Option Value} (X : K.In h) (G : h.Ns mainGlobals mg) (c : He.SaysD fa fn K) : ∀ d ∈ T, ∃ a fd, DefIs T free con K mg d a fd := by
  intro d hd
  simp only [T, List.mem_cons, List.not_mem_nil, or_false] at hd
  rcases hd with rfl | rfl | rfl | rfl | rfl | rfl | rfl | rfl | rfl | rfl | rfl | rfl | rfl | rfl | rfl | rfl | rfl | rfl | rfl | rfl | rfl | rfl | rfl | rfl | rfl | rfl
  · obtain ⟨fd, F⟩ := c.def_ 0 (d := mkD "joined" 1) rfl
    exact defIs_of F (He.glo_ok X G (c.fact 0 (f := .glo "joined") rfl)) (fun _ _ _ _ _ _ us hl => match us, hl with | [_, _], _ => rfl) ck0
  · obtain ⟨fd, F⟩ := c.def_ 1 (d := mkD "tries_in" 2) rfl
    exact defIs_of F (He.glo_ok X G (c.fact 1 (f := .glo "tries_in") rfl)) (fun _ _ _ _ _ _ us hl => match us, hl with | [_, _, _, _], _ => rfl) ck1
  · obtain ⟨fd, F⟩ := c.def_ 2 (d := mkD "tries_of" 3) rfl
    exact defIs_of F (He.glo_ok X G (c.fact 2 (f := .glo "tries_of") rfl)) (fun _ _ _ _ _ _ us hl => match us, hl with | [_], _ => rfl) ck2
  · obtain ⟨fd, F⟩ := c.def_ 3 (d := mkD "holds" 5) rfl
    exact defIs_of F (He.glo_ok X G (c.fact 3 (f := .glo "holds") rfl)) (fun _ _ _ _ _ _ us hl => match us, hl with | [_, _, _], _ => rfl) ck3
  · obtain ⟨fd, F⟩ := c.def_ 4 (d := mkD "chosen" 6) rfl
    exact defIs_of F (He.glo_ok X G (c.fact 4 (f := .glo "chosen") rfl)) (fun _ _ _ _ _ _ us hl => match us, hl with | [_, _], _ => rfl) ck4
  · obtain ⟨fd, F⟩ := c.def_ 5 (d := mkD "simple" 7) rfl
    exact defIs_of F (He.glo_ok X G (c.fact 5 (f := .glo "simple") rfl)) (fun _ _ _ _ _ _ us hl => match us, hl with | [_], _ => rfl) ck5
  · obtain ⟨fd, F⟩ := c.def_ 6 (d := mkD "parting" 8) rfl
    exact defIs_of F (He.glo_ok X G (c.fact 6 (f := .glo "parting") rfl)) (fun _ _ _ _ _ _ us hl => match us, hl with | [_, _, _], _ => rfl) ck6
  · obtain ⟨fd, F⟩ := c.def_ 7 (d := mkD "_law_same" 10) rfl
    exact defIs_of F (He.glo_ok X G (c.fact 7 (f := .glo "_law_same") rfl)) (fun _ _ _ _ _ _ us hl => match us, hl with | [_, _], _ => rfl) ck7
  · obtain ⟨fd, F⟩ := c.def_ 8 (d := mkD "_law_draw" 11) rfl
    exact defIs_of F (He.glo_ok X G (c.fact 8 (f := .glo "_law_draw") rfl)) (fun _ _ _ _ _ _ us hl => match us, hl with | [_, _, _], _ => rfl) ck8
  · obtain ⟨fd, F⟩ := c.def_ 9 (d := mkD "_law_pick" 12) rfl
    exact defIs_of F (He.glo_ok X G (c.fact 9 (f := .glo "_law_pick") rfl)) (fun _ _ _ _ _ _ us hl => match us, hl with | [_, _, _], _ => rfl) ck9
  · obtain ⟨fd, F⟩ := c.def_ 10 (d := mkD "_law_mixed" 13) rfl
    exact defIs_of F (He.glo_ok X G (c.fact 10 (f := .glo "_law_mixed") rfl)) (fun _ _ _ _ _ _ us hl => match us, hl with | [_, _, _], _ => rfl) ck10
  · obtain ⟨fd, F⟩ := c.def_ 11 (d := mkD "_law_some" 14) rfl
    exact defIs_of F (He.glo_ok X G (c.fact 11 (f := .glo "_law_some") rfl)) (fun _ _ _ _ _ _ us hl => match us, hl with | [_, _, _, _], _ => rfl) ck11
  · obtain ⟨fd, F⟩ := c.def_ 12 (d := mkD "_law_deeds" 15) rfl
    exact defIs_of F (He.glo_ok X G (c.fact 12 (f := .glo "_law_deeds") rfl)) (fun _ _ _ _ _ _ us hl => match us, hl with | [_, _, _], _ => rfl) ck12
  · obtain ⟨fd, F⟩ := c.def_ 13 (d := mkD "_law_stages" 16) rfl
    exact defIs_of F (He.glo_ok X G (c.fact 13 (f := .glo "_law_stages") rfl)) (fun _ _ _ _ _ _ us hl => match us, hl with | [_, _], _ => rfl) ck13
  · obtain ⟨fd, F⟩ := c.def_ 14 (d := mkD "_law_member" 17) rfl
    exact defIs_of F (He.glo_ok X G (c.fact 14 (f := .glo "_law_member") rfl)) (fun _ _ _ _ _ _ us hl => match us, hl with | [_, _, _, _, _], _ => rfl) ck14
  · obtain ⟨fd, F⟩ := c.def_ 15 (d := mkD "_law_members" 18) rfl
    exact defIs_of F (He.glo_ok X G (c.fact 15 (f := .glo "_law_members") rfl)) (fun _ _ _ _ _ _ us hl => match us, hl with | [_, _, _, _], _ => rfl) ck15
  · obtain ⟨fd, F⟩ := c.def_ 16 (d := mkD "_law_book" 19) rfl
    exact defIs_of F (He.glo_ok X G (c.fact 16 (f := .glo "_law_book") rfl)) (fun _ _ _ _ _ _ us hl => match us, hl with | [_, _], _ => rfl) ck16
  · obtain ⟨fd, F⟩ := c.def_ 17 (d := mkD "_law_both" 20) rfl
    exact defIs_of F (He.glo_ok X G (c.fact 17 (f := .glo "_law_both") rfl)) (fun _ _ _ _ _ _ us hl => match us, hl with | [_, _], _ => rfl) ck17
  · obtain ⟨fd, F⟩ := c.def_ 18 (d := mkD "_law_tries" 21) rfl
    exact defIs_of F (He.glo_ok X G (c.fact 18 (f := .glo "_law_tries") rfl)) (fun _ _ _ _ _ _ us hl => match us, hl with | [_, _, _, _], _ => rfl) ck18
  · obtain ⟨fd, F⟩ := c.def_ 19 (d := mkD "_law_needs" 22) rfl
    exact defIs_of F (He.glo_ok X G (c.fact 19 (f := .glo "_law_needs") rfl)) (fun _ _ _ _ _ _ us hl => match us, hl with | [_, _], _ => rfl) ck19
  · obtain ⟨fd, F⟩ := c.def_ 20 (d := mkD "_law_try" 23) rfl
    exact defIs_of F (He.glo_ok X G (c.fact 20 (f := .glo "_law_try") rfl)) (fun _ _ _ _ _ _ us hl => match us, hl with | [_, _], _ => rfl) ck20
  · obtain ⟨fd, F⟩ := c.def_ 21 (d := mkD "_law_wish" 24) rfl
    exact defIs_of F (He.glo_ok X G (c.fact 21 (f := .glo "_law_wish") rfl)) (fun _ _ _ _ _ _ us hl => match us, hl with | [_, _, _], _ => rfl) ck21
  · obtain ⟨fd, F⟩ := c.def_ 22 (d := mkD "_law_holds" 25) rfl
    exact defIs_of F (He.glo_ok X G (c.fact 22 (f := .glo "_law_holds") rfl)) (fun _ _ _ _ _ _ us hl => match us, hl with | [_, _, _], _ => rfl) ck22
  · obtain ⟨fd, F⟩ := c.def_ 23 (d := mkD "_law_is_simple" 26) rfl
    exact defIs_of F (He.glo_ok X G (c.fact 23 (f := .glo "_law_is_simple") rfl)) (fun _ _ _ _ _ _ us hl => match us, hl with | [_], _ => rfl) ck23
  · obtain ⟨fd, F⟩ := c.def_ 24 (d := mkD "_law_simple" 27) rfl
    exact defIs_of F (He.glo_ok X G (c.fact 24 (f := .glo "_law_simple") rfl)) (fun _ _ _ _ _ _ us hl => match us, hl with | [_, _], _ => rfl) ck24
  · obtain ⟨fd, F⟩ := c.def_ 25 (d := mkD "law" 28) rfl
    exact defIs_of F (He.glo_ok X G (c.fact 25 (f := .glo "law") rfl)) (fun _ _ _ _ _ _ us hl => match us, hl with | [_], _ => rfl) ck25
theorem all_free {K : PySem.W.Frag} {h : Heap} {mg : Str → Option Value} (X : K.In h) (G : h.Ns mainGlobals mg) (c : He.SaysD fa fn K) : ∀ x ∈ free, mg x = none := by
  intro x hx
  simp only [free, List.mem_cons, List.not_mem_nil, or_false] at hx
  rcases hx with rfl | rfl | rfl | rfl | rfl | rfl | rfl | rfl | rfl | rfl | rfl | rfl | rfl | rfl | rfl | rfl | rfl | rfl | rfl
  · exact He.free_ok X G (c.fact 26 (f := .free "len") rfl)
  · exact He.free_ok X G (c.fact 27 (f := .free "isinstance") rfl)
  · exact He.free_ok X G (c.fact 28 (f := .free "all") rfl)
  · exact He.free_ok X G (c.fact 29 (f := .free "any") rfl)
  · exact He.free_ok X G (c.fact 30 (f := .free "tuple") rfl)
  · exact He.free_ok X G (c.fact 31 (f := .free "list") rfl)
  · exact He.free_ok X G (c.fact 32 (f := .free "int") rfl)
  · exact He.free_ok X G (c.fact 33 (f := .free "str") rfl)
  · exact He.free_ok X G (c.fact 34 (f := .free "bool") rfl)
  · exact He.free_ok X G (c.fact 35 (f := .free "range") rfl)
  · exact He.free_ok X G (c.fact 36 (f := .free "sum") rfl)
  · exact He.free_ok X G (c.fact 37 (f := .free "sorted") rfl)
  · exact He.free_ok X G (c.fact 38 (f := .free "set") rfl)
  · exact He.free_ok X G (c.fact 39 (f := .free "dict") rfl)
  · exact He.free_ok X G (c.fact 40 (f := .free "enumerate") rfl)
  · exact He.free_ok X G (c.fact 41 (f := .free "zip") rfl)
  · exact He.free_ok X G (c.fact 42 (f := .free "min") rfl)
  · exact He.free_ok X G (c.fact 43 (f := .free "max") rfl)
  · exact He.free_ok X G (c.fact 44 (f := .free "repr") rfl)
theorem all_con {K : PySem.W.Frag} {h : Heap} {mg : Str → Option Value} {gf : Str → Option Addr} (X : K.In h) (G : h.Ns mainGlobals mg) (c : He.SaysD fa fn K) : ∀ x ∈ con, ∀ d, gc x = some d → ConOk K gf mg x d := by
  intro x hx d hd
  cases hx
theorem facts {P : Program} {w : World} {K : PySem.W.Frag} {h : Heap} {mg : Str → Option Value} {f : Addr} (n : Nat) (X : K.In h) (G : h.Ns mainGlobals mg) (hfa : mg ("law" : Str) = some (.ref f)) (c : He.SaysD fa fn K) :
    ∃ fd : FuncData, (∀ (s : Shared) (v : Value), BindsTo s fd ⟨[v], []⟩ [("script", v)]) ∧ ∀ base : Heap, K.In base → base.Ns mainGlobals mg → FnOk P w K mg base (L2.CX P w) (2 * n) f fd ["script"] (spF K (fun x => some (He.ga K x)) 1 (cfN T gc n "law")) := by
  obtain ⟨a, fd, di⟩ := all_def X G c b_law (by simp [T])
  cases hfa.symm.trans di.gl
  exact ⟨fd, fun s v => .of_eq (di.bd [v] rfl), fun base hb hg => all_ok (P := P) (w := w) (base := base) (gf := fun x => some (He.ga K x)) nd (all_def X G c) (all_free X G c) (all_con X G c) n b_law (by simp [T]) f fd di⟩
theorem law_of {n : Nat} (hn : n ≤ 100) (hpure : ∀ ns : List Int, ns.length ≤ 63 → ∃ st, cfN T gc n "law" [.scr ns] [] = some (.ok (.bl true), st)) : PySem.Challenge.rw_trybook_k09_whole_tries_chosen.Holds := by
  open PySem.W PySem.Calls PyProof.Rows in
  w_on; o_law
  refine HandSHeadRun.head_any (r := PySem.W.OpenLaw.row PySem.Challenge.rw_trybook_k09_whole_tries_chosen) (q := PySem.W.view (PySem.W.OpenLaw.row PySem.Challenge.rw_trybook_k09_whole_tries_chosen).prog [28]) (H := hk) (ob := ob) (M := 6000) (loose := loose) (d := HandSHeadRun.topDef (PySem.W.OpenLaw.row PySem.Challenge.rw_trybook_k09_whole_tries_chosen).prog 28) (kwd := []) ob_eq
    (by kernel_rfl) (fun s => by kernel_rfl) run (by kernel_rfl) (by kernel_rfl) (by kernel_rfl) (by rfl) (by first | assumption | decide +kernel) (by decide +kernel) ⟨rfl, rfl, rfl, rfl, rfl, by decide +kernel⟩ ?hw ?hc
  case hw => w_witness2
  case hc =>
    refine L2.TBwalk (l := PySem.Challenge.rw_trybook_k09_whole_tries_chosen) (n := 63) (k := 2 * n) (x := "script") rfl (by decide) (by kernel_rfl) (L2.TBroom hn) ?F
    intro w mg fa h Y G hmg0
    obtain ⟨K, KX, c⟩ := Y
    have hmg : mg ("law" : PySem.Str) = some (.ref fa) := by
      have e : (HandSHeadRun.topDef (PySem.W.OpenLaw.row PySem.Challenge.rw_trybook_k09_whole_tries_chosen).prog 28).name = ("law" : PySem.Str) := by kernel_rfl
      rw [← e]
      exact hmg0
    obtain ⟨fd, hb, hF⟩ := facts (P := (PySem.Challenge.rw_trybook_k09_whole_tries_chosen).prog) (w := w) n KX G hmg c
    exact ⟨K, fd, _, KX, hb, fun H a ns hl hO hS => law_sp hpure H a ns hl hO hS, hF⟩
end TBP
set_option Elab.async false
set_option linter.all false
set_option maxRecDepth 100000
set_option maxHeartbeats 4000000
/-! TB14: what a run of the small language must meet, told backwards -/
namespace TB
open PySem PySem.Spec L2
section
variable {τ υ : Type}
def wp (m : M τ) (st : Sto) (P : τ → Sto → Prop) (E : Str → Sto → Prop) : Prop := match m st with
  | some (.ok t, st1) => P t st1
  | some (.exn c, st1) => E c st1
  | none => False
def wpS (m : MS) (ρ : Lo) (st : Sto) (Q : Out → Sto → Prop) : Prop := match m ρ st with
  | some (o, st1) => Q o st1
  | none => False
def lk (o : Option τ) (P : τ → Prop) : Prop := match o with
  | some t => P t
  | none => False
@[simp ↓] theorem lk_some (t : τ) (P : τ → Prop) : lk (some t) P = P t := rfl
@[simp ↓] theorem lk_none (P : τ → Prop) : lk none P = False := rfl
theorem lk_congr {o o' : Option τ} {P : τ → Prop} (h : o = o') : lk o P = lk o' P := by rw [h]
theorem wp_congr {m m' : M τ} {st st' : Sto} {P : τ → Sto → Prop} {E : Str → Sto → Prop} (h : m = m') (h2 : st = st') : wp m st P E = wp m' st' P E := by rw [h, h2]
theorem wpS_congr {m : MS} {ρ ρ' : Lo} {st st' : Sto} {Q : Out → Sto → Prop} (h : ρ = ρ') (h2 : st = st') : wpS m ρ st Q = wpS m ρ' st' Q := by rw [h, h2]
variable {P : τ → Sto → Prop} {P2 : υ → Sto → Prop} {E : Str → Sto → Prop} {st : Sto}
@[simp ↓] theorem wp_bind (m : M τ) (f : τ → M υ) : wp (M.bind m f) st P2 E = wp m st (fun t st1 => wp (f t) st1 P2 E) E := by
  unfold wp M.bind
  rcases m st with _ | ⟨⟨t⟩ | ⟨c⟩, st1⟩ <;> rfl
@[simp ↓] theorem wp_pure (t : τ) : wp (M.pure t) st P E = P t st := rfl
@[simp ↓] theorem wp_look (f : Sto → Option τ) : wp (M.look f) st P E = lk (f st) (fun t => P t st) := by
  unfold wp M.look lk
  rcases f st with _ | t <;> rfl
theorem wp_quiet (m : M τ) : wp (M.quiet m) st P E = wp m st P (fun _ _ => False) := by
  unfold wp M.quiet
  rcases m st with _ | ⟨⟨t⟩ | ⟨c⟩, st1⟩ <;> rfl
@[simp ↓] theorem wp_stuck : wp (M.stuck : M τ) st P E = False := rfl
@[simp] theorem wp_ite (b : Prop) [Decidable b] (m1 m2 : M τ) : wp (if b then m1 else m2) st P E = if b then wp m1 st P E else wp m2 st P E := by
  split <;> rfl
theorem wp_mono {m : M τ} {P' : τ → Sto → Prop} {E' : Str → Sto → Prop} (h : wp m st P E) (hp : ∀ t st1, P t st1 → P' t st1) (he : ∀ c st1, E c st1 → E' c st1) : wp m st P' E' := by
  revert h
  unfold wp
  rcases m st with _ | ⟨⟨t⟩ | ⟨c⟩, st1⟩
  · exact id
  · exact hp t st1
  · exact he c st1
abbrev noX : Str → Sto → Prop := fun _ _ => False
theorem wp_go {m : M τ} {P' : τ → Sto → Prop} (h : wp m st P' noX) (hp : ∀ t st1, P' t st1 → P t st1) : wp m st P E := wp_mono h hp fun _ _ z => z.elim
theorem wp_ok {m : M τ} (h : wp m st P noX) : ∃ t st1, m st = some (.ok t, st1) ∧ P t st1 := by
  revert h
  unfold wp
  rcases m st with _ | ⟨⟨t⟩ | ⟨c⟩, st1⟩
  · exact fun z => z.elim
  · exact fun h => ⟨t, st1, rfl, h⟩
  · exact fun z => z.elim
theorem wpS_mono {m : MS} {ρ : Lo} {Q Q' : Out → Sto → Prop} (h : wpS m ρ st Q) (hp : ∀ t st1, Q t st1 → Q' t st1) : wpS m ρ st Q' := by
  revert h
  unfold wpS
  rcases m ρ st with _ | ⟨o, st1⟩
  · exact id
  · exact hp o st1
@[simp ↓] theorem wp_mkT (l : List D) {P : D → Sto → Prop} : wp (mkT l) st P E = (l.length ≤ sizeLine ∧ P (.tup l) st) := by
  unfold wp mkT
  by_cases h : l.length ≤ sizeLine <;> simp [h]
@[simp ↓] theorem wp_mkLf (l : List D) {P : D → Sto → Prop} : wp (mkL false l) st P E = (l.length ≤ sizeLine ∧ P (.lst l) st) := by
  unfold wp mkL
  by_cases h : l.length ≤ sizeLine <;> simp [h]
@[simp ↓] theorem wp_mkLt (l : List D) {P : D → Sto → Prop} : wp (mkL true l) st P E = (l.length ≤ sizeLine ∧ P (.ref st.length) (st ++ [.lst l])) := by
  unfold wp mkL
  by_cases h : l.length ≤ sizeLine <;> simp [h]
end
/-! ### the language -/
section
variable {cf : Str → List D → M D} {gc : Str → Option D} {ρ : Lo} {st : Sto} {P : D → Sto → Prop} {PB : Bool → Sto → Prop} {PL : List D → Sto → Prop} {E : Str → Sto → Prop}
@[simp ↓] theorem we_var (i : Nat) : wp (ev cf gc (.var i) ρ) st P E = lk ((ρ[i]?).bind id) (fun t => P t st) := by
  rw [ev]; exact wp_look _
@[simp ↓] theorem we_non : wp (ev cf gc .non ρ) st P E = P .non st := by rw [ev]; rfl
@[simp ↓] theorem we_bl (b : Bool) : wp (ev cf gc (.bl b) ρ) st P E = P (.bl b) st := by rw [ev]; rfl
@[simp ↓] theorem we_int (b : Int) : wp (ev cf gc (.int b) ρ) st P E = P (.int b) st := by rw [ev]; rfl
@[simp ↓] theorem we_str (b : Str) : wp (ev cf gc (.str b) ρ) st P E = P (.str b) st := by rw [ev]; rfl
@[simp ↓] theorem we_glob (x : Str) : wp (ev cf gc (.glob x) ρ) st P E = lk (gc x) (fun t => P t st) := by rw [ev]; exact wp_look _
@[simp ↓] theorem we_band (es : Es) : wp (ev cf gc (.band es) ρ) st P E = wp (evAnd cf gc es ρ) st P E := by rw [ev]
@[simp ↓] theorem we_bor (es : Es) : wp (ev cf gc (.bor es) ρ) st P E = wp (evOr cf gc es ρ) st P E := by rw [ev]
@[simp ↓] theorem we_and1 (e : TB.E) : wp (evAnd cf gc (.cons e .nil) ρ) st P E = wp (ev cf gc e ρ) st P E := by rw [evAnd]
@[simp ↓] theorem we_or1 (e : TB.E) : wp (evOr cf gc (.cons e .nil) ρ) st P E = wp (ev cf gc e ρ) st P E := by rw [evOr]
@[simp ↓] theorem we_and2 (e e2 : TB.E) (es : Es) : wp (evAnd cf gc (.cons e (.cons e2 es)) ρ) st P E = wp (ev cf gc e ρ) st (fun d st1 => lk (truth st1 d) fun k => if k then wp (evAnd cf gc (.cons e2 es) ρ) st1 P E else P d st1) E := by
  rw [evAnd]
  · show wp (M.bind _ _) st P E = _
    rw [wp_bind]; congr 1; funext d st1; rw [wp_bind, wp_look]; congr 1; funext k; cases k <;> rfl
  · exact fun h => by cases h
@[simp ↓] theorem we_or2 (e e2 : TB.E) (es : Es) : wp (evOr cf gc (.cons e (.cons e2 es)) ρ) st P E = wp (ev cf gc e ρ) st (fun d st1 => lk (truth st1 d) fun k => if k then P d st1 else wp (evOr cf gc (.cons e2 es) ρ) st1 P E) E := by
  rw [evOr]
  · show wp (M.bind _ _) st P E = _
    rw [wp_bind]; congr 1; funext d st1; rw [wp_bind, wp_look]; congr 1; funext k; cases k <;> rfl
  · exact fun h => by cases h
@[simp ↓] theorem we_not (e : TB.E) : wp (ev cf gc (.not e) ρ) st P E = wp (ev cf gc e ρ) st (fun d st1 => lk (truth st1 d) fun k => P (.bl (!k)) st1) E := by
  rw [ev]
  show wp (M.bind _ _) st P E = _
  rw [wp_bind]; congr 1; funext d st1; rw [wp_bind, wp_look]; rfl
theorem w_op (g : D → D → M D) (ma mb : Lo → M D) : wp (mOp g ma mb ρ) st P E = wp (ma ρ) st (fun x st1 => wp (mb ρ) st1 (fun y st2 => wp (g x y) st2 P E) E) E := by
  show wp (M.bind _ _) st P E = _
  rw [wp_bind]; congr 1; funext d st1; rw [wp_bind]
@[simp ↓] theorem we_bin (op : Bop) (a b : TB.E) : wp (ev cf gc (.bin op a b) ρ) st P E = wp (ev cf gc a ρ) st (fun x st1 => wp (ev cf gc b ρ) st1 (fun y st2 => wp (op.g x y) st2 P E) E) E := by
  rw [ev, w_op]
@[simp ↓] theorem we_cmp (op : CmpOp) (a b : TB.E) : wp (ev cf gc (.cmp op a b) ρ) st P E = wp (ev cf gc a ρ) st (fun x st1 => wp (ev cf gc b ρ) st1 (fun y st2 => wp (cmpG op x y) st2 P E) E) E := by
  rw [ev, w_op]
@[simp ↓] theorem we_idx (a b : TB.E) : wp (ev cf gc (.idx a b) ρ) st P E = wp (ev cf gc a ρ) st (fun x st1 => wp (ev cf gc b ρ) st1 (fun y st2 => lk (idxT st2 x y) fun z => P z st2) E) E := by
  rw [ev, w_op]; congr 1; funext x st1; congr 1; funext y st2; exact wp_look _
@[simp ↓] theorem we_neg (a : TB.E) : wp (ev cf gc (.neg a) ρ) st P E = wp (ev cf gc a ρ) st (fun x st1 => wp (gNeg x) st1 P E) E := by
  rw [ev]; exact wp_bind _ _
@[simp ↓] theorem we_chain (o1 o2 : CmpOp) (a b c : TB.E) : wp (ev cf gc (.chain o1 o2 a b c) ρ) st P E = wp (ev cf gc a ρ) st (fun x st1 => wp (ev cf gc b ρ) st1 (fun y st2 => wp (cmpG o1 x y) st2 (fun z st3 => lk (asB z) fun k => if k then wp (ev cf gc c ρ) st3 (fun w st4 => wp (cmpG o2 y w) st4 P E) E else P (.bl false) st3) E) E) E := by
  rw [ev]
  show wp (M.bind _ _) st P E = _
  rw [wp_bind]; congr 1; funext d st1; rw [wp_bind]; congr 1; funext d st1; rw [wp_bind]; congr 1; funext d st1; rw [wp_bind, wp_look]; congr 1; funext k; cases k
  · rfl
  · exact wp_bind _ _
@[simp ↓] theorem we_ite (c a b : TB.E) : wp (ev cf gc (.ite c a b) ρ) st P E = wp (tst cf gc c ρ) st (fun k st1 => if k then wp (ev cf gc a ρ) st1 P E else wp (ev cf gc b ρ) st1 P E) E := by
  rw [ev]
  show wp (M.bind _ _) st P E = _
  rw [wp_bind]; congr 1; funext k st1; cases k <;> rfl
@[simp ↓] theorem we_tup (es : Es) : wp (ev cf gc (.tup es) ρ) st P E = wp (evs cf gc es ρ) st (fun l st1 => l.length ≤ sizeLine ∧ P (.tup l) st1) E := by
  rw [ev]
  show wp (M.bind _ _) st P E = _
  rw [wp_bind]; congr 1; funext l st1; exact wp_mkT l
@[simp ↓] theorem we_lst (m : Bool) (es : Es) : wp (ev cf gc (.lst m es) ρ) st P E = wp (evs cf gc es ρ) st (fun l st1 => wp (mkL m l) st1 P E) E := by
  rw [ev]
  exact wp_bind _ _
@[simp ↓] theorem we_call (f : Str) (n : Nat) (es : Es) : wp (ev cf gc (.call f n es) ρ) st P E = wp (evs cf gc es ρ) st (fun l st1 => if l.length = n then wp (cf f l) st1 P E else False) E := by
  rw [ev]
  show wp (M.bind _ _) st P E = _
  rw [wp_bind]; congr 1; funext l st1; rw [wp_ite]; rfl
@[simp ↓] theorem we_blt (f : Blt) (a : TB.E) : wp (ev cf gc (.blt f a) ρ) st P E = wp (ev cf gc a ρ) st (fun d st1 => wp (f.g [d]) st1 P E) E := by
  rw [ev]
  show wp (M.bind (M.bind _ _) _) st P E = _
  rw [wp_bind, wp_bind]; congr 1
@[simp ↓] theorem we_isi (T : Ty) (a : TB.E) : wp (ev cf gc (.isi T a) ρ) st P E = wp (ev cf gc a ρ) st (fun d st1 => lk ((tyName st1 d).bind fun n => TB.isi n T.nm) fun b => P (.bl b) st1) E := by
  rw [ev]
  show wp (M.bind _ _) st P E = _
  rw [wp_bind]; congr 1; funext d st1; show wp (M.look _) st1 P E = _; rw [wp_look]; rcases (tyName st1 d).bind fun n => TB.isi n T.nm with _ | b <;> rfl
@[simp ↓] theorem we_bm (f : Bm) (o : TB.E) (es : Es) : wp (ev cf gc (.bm f o es) ρ) st P E = wp (ev cf gc o ρ) st (fun d st1 => if btOk st1 d f.T then wp (evs cf gc es ρ) st1 (fun l st2 => wp (f.g d l) st2 P E) E else False) E := by
  rw [ev]
  show wp (M.bind _ _) st P E = _
  rw [wp_bind]; congr 1; funext d st1; rw [wp_bind, wp_look]; cases btOk st1 d f.T
  · rfl
  · exact wp_bind _ _
@[simp ↓] theorem we_slc (m : Bool) (o : TB.E) (lo hi : Eo) : wp (ev cf gc (.slc m o lo hi) ρ) st P E = wp (ev cf gc o ρ) st (fun d st1 => wp (evo cf gc lo ρ) st1 (fun a st2 => wp (evo cf gc hi ρ) st2 (fun b st3 => wp (slcT m d a b) st3 P E) E) E) E := by
  rw [ev]
  show wp (M.bind _ _) st P E = _
  rw [wp_bind]; congr 1; funext d st1; rw [wp_bind]; congr 1; funext d st1; rw [wp_bind]
@[simp ↓] theorem we_onone {PO : Option Int → Sto → Prop} : wp (evo cf gc .none ρ) st PO E = PO none st := by rw [evo]; rfl
@[simp ↓] theorem we_osome {PO : Option Int → Sto → Prop} (e : TB.E) : wp (evo cf gc (.some e) ρ) st PO E = wp (ev cf gc e ρ) st (fun d st1 => lk (asI d) fun i => PO (some i) st1) E := by
  rw [evo]
  show wp (M.bind _ _) st PO E = _
  rw [wp_bind]; congr 1; funext d st1; rw [wp_look]; cases asI d <;> rfl
@[simp ↓] theorem we_rev (m : Bool) (o : TB.E) : wp (ev cf gc (.rev m o) ρ) st P E = wp (ev cf gc o ρ) st (fun d st1 => wp (gRev m d) st1 P E) E := by
  rw [ev]; exact wp_bind _ _
/-- a comprehension -/
@[simp ↓] theorem we_lc (m : Bool) (own : List (Str × Nat)) (t : Tg) (it : It) (c : Eo) (e : TB.E) : wp (ev cf gc (.lc m own t it c e) ρ) st P E = wp (evi cf gc it ρ) st (fun src st1 => wp (lcG src t (own.map (·.2)) (evc cf gc c) (ev cf gc e) ρ src.items) st1 (fun l st2 => wp (mkL m l) st2 P E) E) E := by
  rw [ev]
  show wp (M.bind _ _) st P E = _
  rw [wp_bind]; congr 1; funext d st1; rw [wp_bind]
@[simp ↓] theorem wi_seq {PI : Src → Sto → Prop} (e : TB.E) : wp (evi cf gc (.seq e) ρ) st PI E = wp (ev cf gc e ρ) st (fun d st1 => lk (srcQ st1 d) fun s => PI s st1) E := by
  rw [evi]
  show wp (M.bind _ _) st PI E = _
  rw [wp_bind]; congr 1; funext d st1; rw [wp_look]
@[simp ↓] theorem wi_rng1 {PI : Src → Sto → Prop} (e : TB.E) : wp (evi cf gc (.rng1 e) ρ) st PI E = wp (ev cf gc e ρ) st (fun d st1 => lk (srcR1 d) fun s => PI s st1) E := by
  rw [evi]
  show wp (M.bind _ _) st PI E = _
  rw [wp_bind]; congr 1; funext d st1; rw [wp_look]
@[simp ↓] theorem wi_zip {PI : Src → Sto → Prop} (a b : TB.E) : wp (evi cf gc (.zip a b) ρ) st PI E = wp (ev cf gc a ρ) st (fun x st1 => wp (ev cf gc b ρ) st1 (fun y st2 => lk (srcZ [x, y]) fun s => PI s st2) E) E := by
  rw [evi]
  show wp (M.bind (M.bind (ev cf gc a ρ) fun d => M.bind (M.bind (ev cf gc b ρ) fun d2 => M.bind (M.pure []) fun l => M.pure (d2 :: l)) fun l => M.pure (d :: l)) fun ds => M.look fun _ => srcZ ds) st PI E = _
  rw [wp_bind, wp_bind]; congr 1; funext d st1
  show wp (M.bind (M.bind (ev cf gc b ρ) fun d2 => M.bind (M.pure []) fun l => M.pure (d2 :: l)) fun l => M.pure (d :: l)) st1 _ E = _
  rw [wp_bind, wp_bind]; congr 1; funext d2 st2
  exact wp_look _
@[simp ↓] theorem wa_nil : wp (evs cf gc .nil ρ) st PL E = PL [] st := by rw [evs]; rfl
@[simp ↓] theorem wa_cons (e : TB.E) (es : Es) : wp (evs cf gc (.cons e es) ρ) st PL E = wp (ev cf gc e ρ) st (fun d st1 => wp (evs cf gc es ρ) st1 (fun l st2 => PL (d :: l) st2) E) E := by
  rw [evs]
  show wp (M.bind _ _) st PL E = _
  rw [wp_bind]; congr 1; funext d st1; rw [wp_bind]; rfl
/-- tests -/
@[simp ↓] theorem wt_not (a : TB.E) : wp (tst cf gc (.not a) ρ) st PB E = wp (tst cf gc a ρ) st (fun k st1 => PB (!k) st1) E := by
  rw [tst]; exact wp_bind _ _
@[simp ↓] theorem wt_band (es : Es) : wp (tst cf gc (.band es) ρ) st PB E = wp (tstAnd cf gc es ρ) st PB E := by rw [tst]
@[simp ↓] theorem wt_bor (es : Es) : wp (tst cf gc (.bor es) ρ) st PB E = wp (tstOr cf gc es ρ) st PB E := by rw [tst]
@[simp ↓] theorem wt_and1 (e : TB.E) : wp (tstAnd cf gc (.cons e .nil) ρ) st PB E = wp (tst cf gc e ρ) st PB E := by rw [tstAnd]
@[simp ↓] theorem wt_or1 (e : TB.E) : wp (tstOr cf gc (.cons e .nil) ρ) st PB E = wp (tst cf gc e ρ) st PB E := by rw [tstOr]
@[simp ↓] theorem wt_and2 (e e2 : TB.E) (es : Es) : wp (tstAnd cf gc (.cons e (.cons e2 es)) ρ) st PB E = wp (tst cf gc e ρ) st (fun k st1 => if k then wp (tstAnd cf gc (.cons e2 es) ρ) st1 PB E else PB false st1) E := by
  rw [tstAnd]
  · show wp (M.bind _ _) st PB E = _
    rw [wp_bind]; congr 1; funext k st1; cases k <;> rfl
  · exact fun h => by cases h
@[simp ↓] theorem wt_or2 (e e2 : TB.E) (es : Es) : wp (tstOr cf gc (.cons e (.cons e2 es)) ρ) st PB E = wp (tst cf gc e ρ) st (fun k st1 => if k then PB true st1 else wp (tstOr cf gc (.cons e2 es) ρ) st1 PB E) E := by
  rw [tstOr]
  · show wp (M.bind _ _) st PB E = _
    rw [wp_bind]; congr 1; funext k st1; cases k <;> rfl
  · exact fun h => by cases h
theorem w_B (m : Lo → M D) : wp (mB m ρ) st PB E = wp (m ρ) st (fun d st1 => lk (asB d) fun k => PB k st1) E := by
  show wp (M.bind _ _) st PB E = _
  rw [wp_bind]; congr 1; funext d st1; rw [wp_look]
theorem w_tru (m : Lo → M D) : wp (mTru m ρ) st PB E = wp (m ρ) st (fun d st1 => lk (truth st1 d) fun k => PB k st1) E := by
  show wp (M.bind _ _) st PB E = _
  rw [wp_bind]; congr 1; funext d st1; rw [wp_look]
@[simp ↓] theorem wt_cmp (op : CmpOp) (a b : TB.E) : wp (tst cf gc (.cmp op a b) ρ) st PB E = wp (ev cf gc (.cmp op a b) ρ) st (fun d st1 => lk (asB d) fun k => PB k st1) E := by rw [tst, ev]; exact w_B _
@[simp ↓] theorem wt_chain (o1 o2 : CmpOp) (a b c : TB.E) : wp (tst cf gc (.chain o1 o2 a b c) ρ) st PB E = wp (ev cf gc (.chain o1 o2 a b c) ρ) st (fun d st1 => lk (asB d) fun k => PB k st1) E := by rw [tst, ev]; exact w_B _
@[simp ↓] theorem wt_var (i : Nat) : wp (tst cf gc (.var i) ρ) st PB E = wp (ev cf gc (.var i) ρ) st (fun d st1 => lk (truth st1 d) fun k => PB k st1) E := by rw [tst, ev]; exact w_tru _
@[simp ↓] theorem wt_bl (i : Bool) : wp (tst cf gc (.bl i) ρ) st PB E = PB i st := by rw [tst]; rw [w_tru]; rfl
@[simp ↓] theorem wt_call (f : Str) (n : Nat) (es : Es) : wp (tst cf gc (.call f n es) ρ) st PB E = wp (ev cf gc (.call f n es) ρ) st (fun d st1 => lk (truth st1 d) fun k => PB k st1) E := by rw [tst, ev]; exact w_tru _
@[simp ↓] theorem wt_blt (f : Blt) (a : TB.E) : wp (tst cf gc (.blt f a) ρ) st PB E = wp (ev cf gc (.blt f a) ρ) st (fun d st1 => lk (truth st1 d) fun k => PB k st1) E := by rw [tst, ev]; exact w_tru _
@[simp ↓] theorem wt_isi (T : Ty) (a : TB.E) : wp (tst cf gc (.isi T a) ρ) st PB E = wp (ev cf gc (.isi T a) ρ) st (fun d st1 => lk (truth st1 d) fun k => PB k st1) E := by rw [tst, ev]; exact w_tru _
@[simp ↓] theorem wt_idx (a b : TB.E) : wp (tst cf gc (.idx a b) ρ) st PB E = wp (ev cf gc (.idx a b) ρ) st (fun d st1 => lk (truth st1 d) fun k => PB k st1) E := by rw [tst, ev]; exact w_tru _
@[simp ↓] theorem wt_bin (op : Bop) (a b : TB.E) : wp (tst cf gc (.bin op a b) ρ) st PB E = wp (ev cf gc (.bin op a b) ρ) st (fun d st1 => lk (truth st1 d) fun k => PB k st1) E := by rw [tst, ev]; exact w_tru _
@[simp ↓] theorem wt_slc (m : Bool) (a : TB.E) (lo hi : Eo) : wp (tst cf gc (.slc m a lo hi) ρ) st PB E = wp (ev cf gc (.slc m a lo hi) ρ) st (fun d st1 => lk (truth st1 d) fun k => PB k st1) E := by rw [tst, ev]; exact w_tru _
@[simp ↓] theorem wt_lc (m : Bool) (own : List (Str × Nat)) (t : Tg) (it : It) (c : Eo) (e : TB.E) : wp (tst cf gc (.lc m own t it c e) ρ) st PB E = wp (ev cf gc (.lc m own t it c e) ρ) st (fun d st1 => lk (truth st1 d) fun k => PB k st1) E := by rw [tst, ev]; exact w_tru _
/-- a comprehension's condition -/
@[simp ↓] theorem wc_none : wp (evc cf gc .none ρ) st PB E = PB true st := by rw [evc]; rfl
@[simp ↓] theorem wc_some (e : TB.E) : wp (evc cf gc (.some e) ρ) st PB E = wp (tst cf gc e ρ) st PB E := by rw [evc]
/-! statements -/
variable {Q : Out → Sto → Prop}
theorem w_lift {τ : Type} (m : M τ) (k : τ → Sto → Option (Out × Sto)) : (match liftE m ρ k st with | some (o, st1) => Q o st1 | none => False) = wp m st (fun t st1 => match k t st1 with | some (o, st1) => Q o st1 | none => False) (fun c st1 => Q (.ex c ρ) st1) := by
  unfold liftE wp
  rcases m st with _ | ⟨⟨t⟩ | ⟨c⟩, st1⟩ <;> rfl
@[simp ↓] theorem ws_nil : wpS (exSs cf gc .nil) ρ st Q = Q (.nx ρ) st := by rw [exSs]; rfl
def seqQ (cf : Str → List D → M D) (gc : Str → Option D) (ss : Ss) (Q : Out → Sto → Prop) : Out → Sto → Prop
  | .nx ρ, st => wpS (exSs cf gc ss) ρ st Q
  | o, st => Q o st
@[simp ↓] theorem ws_cons (s : S) (ss : Ss) : wpS (exSs cf gc (.cons s ss)) ρ st Q = wpS (exS cf gc s) ρ st (seqQ cf gc ss Q) := by
  rw [exSs]
  unfold wpS sSeq
  rcases exS cf gc s ρ st with _ | ⟨_ | _ | _ | _ | _, st1⟩ <;> rfl
@[simp ↓] theorem seqQ_nx (ss : Ss) : seqQ cf gc ss Q (.nx ρ) st = wpS (exSs cf gc ss) ρ st Q := rfl
@[simp ↓] theorem seqQ_rt (ss : Ss) (d : D) : seqQ cf gc ss Q (.rt d) st = Q (.rt d) st := rfl
@[simp ↓] theorem seqQ_bk (ss : Ss) : seqQ cf gc ss Q (.bk ρ) st = Q (.bk ρ) st := rfl
@[simp ↓] theorem seqQ_ct (ss : Ss) : seqQ cf gc ss Q (.ct ρ) st = Q (.ct ρ) st := rfl
@[simp ↓] theorem seqQ_ex (ss : Ss) (c : Str) : seqQ cf gc ss Q (.ex c ρ) st = Q (.ex c ρ) st := rfl
@[simp ↓] theorem ws_pass : wpS (exS cf gc .pass) ρ st Q = Q (.nx ρ) st := by rw [exS]; rfl
@[simp ↓] theorem ws_brk : wpS (exS cf gc .brk) ρ st Q = Q (.bk ρ) st := by rw [exS]; rfl
@[simp ↓] theorem ws_cont : wpS (exS cf gc .cont) ρ st Q = Q (.ct ρ) st := by rw [exS]; rfl
@[simp ↓] theorem ws_expr (e : TB.E) : wpS (exS cf gc (.expr e)) ρ st Q = wp (ev cf gc e ρ) st (fun _ st1 => Q (.nx ρ) st1) (fun c st1 => Q (.ex c ρ) st1) := by rw [exS]; exact w_lift _ _
@[simp ↓] theorem ws_ret (e : TB.E) : wpS (exS cf gc (.ret e)) ρ st Q = wp (ev cf gc e ρ) st (fun d st1 => Q (.rt d) st1) (fun c st1 => Q (.ex c ρ) st1) := by rw [exS]; exact w_lift _ _
@[simp ↓] theorem ws_asg (t : Tg) (e : TB.E) : wpS (exS cf gc (.asg t e)) ρ st Q = wp (ev cf gc e ρ) st (fun d st1 => lk (bindT t d ρ) fun ρ1 => Q (.nx ρ1) st1) (fun c st1 => Q (.ex c ρ) st1) := by
  rw [exS]; refine (w_lift _ _).trans ?_; congr 1; funext d st1; cases bindT t d ρ <;> rfl
@[simp ↓] theorem ws_par (i j : Nat) (a b : TB.E) : wpS (exS cf gc (.par i j a b)) ρ st Q = wp (ev cf gc a ρ) st (fun x st1 => wp (ev cf gc b ρ) st1 (fun y st2 => Q (.nx ((ρ.set i (some x)).set j (some y))) st2) (fun c st1 => Q (.ex c ρ) st1)) (fun c st1 => Q (.ex c ρ) st1) := by
  rw [exS]; refine (w_lift _ _).trans ?_; rw [wp_bind]; congr 1; funext d st1; rw [wp_bind]; congr 1
@[simp ↓] theorem ws_if (c : TB.E) (a b : Ss) : wpS (exS cf gc (.ife c a b)) ρ st Q = wp (tst cf gc c ρ) st (fun k st1 => if k then wpS (exSs cf gc a) ρ st1 Q else wpS (exSs cf gc b) ρ st1 Q) (fun c st1 => Q (.ex c ρ) st1) := by
  rw [exS]; refine (w_lift _ _).trans ?_; congr 1; funext k st1; cases k <;> rfl
@[simp ↓] theorem ws_for (t : Tg) (it : It) (b : Ss) : wpS (exS cf gc (.for_ t it b)) ρ st Q = wp (evi cf gc it ρ) st (fun src st1 => wpS (loopF src t (exSs cf gc b) src.items) ρ st1 Q) (fun c st1 => Q (.ex c ρ) st1) := by
  rw [exS]; exact w_lift _ _
@[simp ↓] theorem ws_whl (n : Nat) (c : TB.E) (b : Ss) : wpS (exS cf gc (.whl n c b)) ρ st Q = wpS (loopW (tst cf gc c) (exSs cf gc b) n) ρ st Q := by
  rw [exS]; rfl
end
/-! ### loops -/
inductive All2 (R : D → D → Prop) : List D → List D → Prop
  | nil : All2 R [] []
  | cons {a b : D} {l m : List D} : R a b → All2 R l m → All2 R (a :: l) (b :: m)
theorem All2.right {R : D → D → Prop} {S : D → Prop} (h : ∀ a b, R a b → S b) : ∀ {l m : List D}, All2 R l m → ∀ y ∈ m, S y
  | _, _, .nil => by simp
  | _, _, .cons r t => by
    intro y hy
    rcases List.mem_cons.mp hy with rfl | hy
    · exact h _ _ r
    · exact All2.right h t y hy
theorem All2.length {R : D → D → Prop} : ∀ {l m : List D}, All2 R l m → l.length = m.length
  | _, _, .nil => rfl
  | _, _, .cons r t => by rw [List.length_cons, List.length_cons, All2.length t]
section
/-- a for: an order of the items left, kept by each turn -/
theorem loop_inv {src : Src} {t : Tg} {body : MS} {Q : Out → Sto → Prop} (I : List D → Lo → Sto → Prop)
    (hok : ∀ ds ρ st, I ds ρ st → src.ok st)
    (step : ∀ d ds ρ st, I (d :: ds) ρ st → ∃ ρ1, bindT t d ρ = some ρ1 ∧ wpS body ρ1 st fun o st1 => match o with
      | .nx ρ2 => I ds ρ2 st1
      | .ct ρ2 => I ds ρ2 st1
      | .bk ρ2 => Q (.nx ρ2) st1
      | o => Q o st1)
    (fin : ∀ ρ st, I [] ρ st → Q (.nx ρ) st) :
    ∀ ds ρ st, I ds ρ st → wpS (loopF src t body ds) ρ st Q
  | [], ρ, st, h => by
    unfold wpS loopF
    rw [if_pos (hok _ _ _ h)]
    exact fin ρ st h
  | d :: ds, ρ, st, h => by
    obtain ⟨ρ1, e, w⟩ := step d ds ρ st h
    unfold wpS at w ⊢
    rw [loopF]
    dsimp only
    rw [if_pos (hok _ _ _ h), e]
    dsimp only
    revert w
    rcases body ρ1 st with _ | ⟨_ | _ | _ | _ | _, st1⟩ <;> intro w
    · exact w
    · exact loop_inv I hok step fin ds _ _ w
    · exact w
    · exact loop_inv I hok step fin ds _ _ w
    · exact w
    · exact w
theorem loopW_stop {c : Lo → M Bool} {body : MS} {n : Nat} {ρ : Lo} {st : Sto} {Q : Out → Sto → Prop} : wpS (loopW c body (n + 1)) ρ st Q = wp (c ρ) st (fun k st1 => if k then wpS body ρ st1 (fun o st2 => match o with
      | .nx ρ2 => wpS (loopW c body n) ρ2 st2 Q
      | .ct ρ2 => wpS (loopW c body n) ρ2 st2 Q
      | .bk ρ2 => Q (.nx ρ2) st2
      | o => Q o st2) else Q (.nx ρ) st1) (fun c st1 => Q (.ex c ρ) st1) := by
  refine (w_lift (c ρ) _).trans ?_
  congr 1; funext k st1
  cases k
  · rfl
  · unfold wpS
    rw [if_pos rfl, if_pos rfl]
    rcases body ρ st1 with _ | ⟨_ | _ | _ | _ | _, st1⟩ <;> rfl
/-- a comprehension: what each item gives -/
theorem lc_nil {src : Src} {t : Tg} {own : List Nat} {tc : Lo → M Bool} {me : Lo → M D} {ρ : Lo} {st : Sto} {P : List D → Sto → Prop} {E : Str → Sto → Prop} (h : src.ok st) : wp (lcG src t own tc me ρ []) st P E = P [] st := by
  unfold wp lcG
  rw [if_pos h]
theorem lc_cons {src : Src} {t : Tg} {own : List Nat} {tc : Lo → M Bool} {me : Lo → M D} {ρ : Lo} {st : Sto} {P : List D → Sto → Prop} {E : Str → Sto → Prop} (d : D) (ds : List D) (h : src.ok st) :
    wp (lcG src t own tc me ρ (d :: ds)) st P E = lk (bindT t d (wipeD ρ own)) fun ρ1 => wp (tc ρ1) st (fun k st1 => if k then wp (me ρ1) st1 (fun y st2 => wp (lcG src t own tc me ρ ds) st2 (fun r st3 => P (y :: r) st3) E) noX else wp (lcG src t own tc me ρ ds) st1 P E) noX := by
  show wp (fun st => _) st P E = _
  rw [lcG]
  unfold wp
  dsimp only
  rw [if_pos h]
  rcases bindT t d (wipeD ρ own) with _ | ρ1
  · rfl
  · show wp (M.bind _ _) st P E = _
    rw [wp_bind, wp_quiet]
    show wp _ _ _ _ = wp _ _ _ _
    congr 1
    funext k st1
    cases k
    · rfl
    · show wp (M.bind _ _) st1 P E = wp _ _ _ _
      rw [wp_bind, wp_quiet]
      congr 1
      funext y st2
      rw [wp_bind]
      rfl
/-- a list of values read with no condition, the store told on -/
theorem lc_inv {src : Src} {t : Tg} {own : List Nat} {me : Lo → M D} {ρ : Lo} {cf : Str → List D → M D} {gc : Str → Option D} {E : Str → Sto → Prop} (I : List D → Sto → Prop) (R : D → D → Prop)
    (hok : ∀ ds st, I ds st → src.ok st)
    (step : ∀ d ds st, I (d :: ds) st → ∃ ρ1, bindT t d (wipeD ρ own) = some ρ1 ∧ wp (me ρ1) st (fun y st1 => I ds st1 ∧ R d y) noX) :
    ∀ ds st (P : List D → Sto → Prop), I ds st → (∀ r st1, I [] st1 → All2 R ds r → P r st1) → wp (lcG src t own (evc cf gc .none) me ρ ds) st P E
  | [], st, P, h, k => by
    rw [lc_nil (hok _ _ h)]
    exact k [] st h .nil
  | d :: ds, st, P, h, k => by
    obtain ⟨ρ1, e, w⟩ := step d ds st h
    rw [lc_cons d ds (hok _ _ h), e, lk_some, wc_none, if_pos rfl]
    refine wp_go w fun y st1 ⟨h1, h2⟩ => ?_
    exact lc_inv I R hok step ds st1 _ h1 fun r st2 h3 h4 => k _ _ h3 (.cons h2 h4)
/-- a comprehension that leaves the store alone -/
theorem lc_pure {src : Src} {t : Tg} {own : List Nat} {tc : Lo → M Bool} {me : Lo → M D} {ρ : Lo} {st : Sto} {E : Str → Sto → Prop} (ρ1 : D → Lo) (c : D → Bool) (f : D → D) (hs : src.ok st) :
    ∀ (ds : List D) (P : List D → Sto → Prop), (∀ d ∈ ds, bindT t d (wipeD ρ own) = some (ρ1 d)) → (∀ d ∈ ds, ∀ P, wp (tc (ρ1 d)) st P noX = P (c d) st) → (∀ d ∈ ds, c d = true → ∀ P, wp (me (ρ1 d)) st P noX = P (f d) st) → wp (lcG src t own tc me ρ ds) st P E = P ((ds.filter c).map f) st
  | [], P, hb, hc, hm => lc_nil hs
  | d :: ds, P, hb, hc, hm => by
    rw [lc_cons d ds hs, hb d List.mem_cons_self, lk_some, hc d List.mem_cons_self]
    have ih := fun P => lc_pure (E := E) ρ1 c f hs ds P (fun e h => hb e (List.mem_cons_of_mem _ h)) (fun e h => hc e (List.mem_cons_of_mem _ h)) (fun e h => hm e (List.mem_cons_of_mem _ h))
    by_cases h : c d = true
    · rw [if_pos h, hm d List.mem_cons_self h, ih, List.filter_cons_of_pos h, List.map_cons]
    · rw [if_neg h, ih, List.filter_cons_of_neg h]
theorem lc_map {src : Src} {t : Tg} {own : List Nat} {cf : Str → List D → M D} {gc : Str → Option D} {me : Lo → M D} {ρ : Lo} {st : Sto} {E : Str → Sto → Prop} {ds : List D} {P : List D → Sto → Prop} (ρ1 : D → Lo) (f : D → D) (hs : src.ok st)
    (hb : ∀ d ∈ ds, bindT t d (wipeD ρ own) = some (ρ1 d)) (hm : ∀ d ∈ ds, ∀ P, wp (me (ρ1 d)) st P noX = P (f d) st) : wp (lcG src t own (evc cf gc .none) me ρ ds) st P E = P (ds.map f) st := by
  rw [lc_pure ρ1 (fun _ => true) f hs ds P hb (fun d _ P => wc_none) (fun d h _ => hm d h), List.filter_eq_self.mpr (fun _ _ => rfl)]
theorem boolsOf_map {τ : Type} (f : τ → Bool) : ∀ l : List τ, boolsOf (l.map fun x => .bl (f x)) = some (l.map f)
  | [] => rfl
  | x :: l => by
    show (boolsOf (l.map fun x => .bl (f x))).map (f x :: ·) = _
    rw [boolsOf_map f l]; rfl
end
/-! ### defs -/
theorem drop_same {st st1 : Sto} {d : D} (h : st1.length = st.length) (hd : ∀ i, d = .ref i → i < st.length) : dropM st (.ok d) st1 = some (.ok d, st1) := by
  unfold dropM
  have e : frz st.length st1 d = d := by
    unfold frz
    split
    · rw [if_pos (hd _ rfl)]
    · rfl
  dsimp only
  rw [e, ← h, List.take_length]
  split <;> rfl
theorem cfN_get {T : Tab} {gc : Str → Option D} {n : Nat} {f : Str} {d : Def} (h : T.get f = some d) : cfN T gc (n + 1) f = fnRun d.N.length (exSs (cfN T gc n) gc d.body) := by
  show (match T.get f with | none => fun _ => M.stuck | some d => fnRun d.N.length (exSs (cfN T gc n) gc d.body)) = _
  rw [h]
/-- what a def's body must end in -/
def fnQ (st : Sto) (P : D → Sto → Prop) (E : Str → Sto → Prop) : Out → Sto → Prop
  | .nx _, st1 => wp (fun _ => dropM st (.ok .non) st1) st P E
  | .rt d, st1 => wp (fun _ => dropM st (.ok d) st1) st P E
  | .ex c _, st1 => wp (fun _ => dropM st (.exn c) st1) st P E
  | _, _ => False
theorem w_fn {T : Tab} {gc : Str → Option D} {n : Nat} {f : Str} {d : Def} (h : T.get f = some d) {ds : List D} {st : Sto} {P : D → Sto → Prop} {E : Str → Sto → Prop} :
    wp (cfN T gc (n + 1) f ds) st P E = wpS (exSs (cfN T gc n) gc d.body) (ds.map some ++ List.replicate (d.N.length - ds.length) none) st (fnQ st P E) := by
  rw [cfN_get h]
  unfold wp wpS fnRun
  rcases exSs (cfN T gc n) gc d.body (ds.map some ++ List.replicate (d.N.length - ds.length) none) st with _ | ⟨_ | _ | _ | _ | _, st1⟩ <;> rfl
theorem fnQ_rt {st st1 : Sto} {P : D → Sto → Prop} {E : Str → Sto → Prop} {d : D} (h : st1.length = st.length) (hd : ∀ i, d = .ref i → i < st.length) : fnQ st P E (.rt d) st1 = P d st1 := by
  show wp _ _ _ _ = _
  unfold wp
  rw [drop_same h hd]
theorem fnQ_nx {st st1 : Sto} {P : D → Sto → Prop} {E : Str → Sto → Prop} {ρ : Lo} (h : st1.length = st.length) : fnQ st P E (.nx ρ) st1 = P .non st1 := by
  show wp _ _ _ _ = _
  unfold wp
  rw [drop_same h (fun i e => by cases e)]
@[simp ↓] theorem fnQ_bl {st : Sto} {P : D → Sto → Prop} {E : Str → Sto → Prop} {b : Bool} : fnQ st P E (.rt (.bl b)) st = P (.bl b) st := fnQ_rt rfl fun i e => by cases e
@[simp] theorem q_asB (b : Bool) : asB (.bl b) = some b := rfl
@[simp] theorem q_asI (i : Int) : asI (.int i) = some i := rfl
@[simp] theorem q_tr_non {st : Sto} : truth st .non = some false := rfl
@[simp] theorem q_tr_bl {st : Sto} (b : Bool) : truth st (.bl b) = some b := rfl
@[simp] theorem q_tr_int {st : Sto} (i : Int) : truth st (.int i) = some (i != 0) := rfl
@[simp] theorem q_tr_str {st : Sto} (x : Str) : truth st (.str x) = some (x.length != 0) := rfl
@[simp] theorem q_tr_tup {st : Sto} (l : List D) : truth st (.tup l) = some (!l.isEmpty) := rfl
@[simp] theorem q_tr_lst {st : Sto} (l : List D) : truth st (.lst l) = some (!l.isEmpty) := rfl
@[simp] theorem q_tr_scr {st : Sto} (l : List Int) : truth st (.scr l) = some (!l.isEmpty) := rfl
@[simp] theorem q_ty_non {st : Sto} : tyName st .non = some "NoneType" := rfl
@[simp] theorem q_isi_NoneType_str : TB.isi "NoneType" "str" = some false := by decide +kernel
@[simp] theorem q_isi_NoneType_int : TB.isi "NoneType" "int" = some false := by decide +kernel
@[simp] theorem q_isi_NoneType_bool : TB.isi "NoneType" "bool" = some false := by decide +kernel
@[simp] theorem q_isi_NoneType_tuple : TB.isi "NoneType" "tuple" = some false := by decide +kernel
@[simp] theorem q_isi_NoneType_list : TB.isi "NoneType" "list" = some false := by decide +kernel
@[simp] theorem q_ty_bl {st : Sto} (b : Bool) : tyName st (.bl b) = some "bool" := rfl
@[simp] theorem q_isi_bool_str : TB.isi "bool" "str" = some false := by decide +kernel
@[simp] theorem q_isi_bool_int : TB.isi "bool" "int" = some true := by decide +kernel
@[simp] theorem q_isi_bool_bool : TB.isi "bool" "bool" = some true := by decide +kernel
@[simp] theorem q_isi_bool_tuple : TB.isi "bool" "tuple" = some false := by decide +kernel
@[simp] theorem q_isi_bool_list : TB.isi "bool" "list" = some false := by decide +kernel
@[simp] theorem q_ty_int {st : Sto} (i : Int) : tyName st (.int i) = some "int" := rfl
@[simp] theorem q_isi_int_str : TB.isi "int" "str" = some false := by decide +kernel
@[simp] theorem q_isi_int_int : TB.isi "int" "int" = some true := by decide +kernel
@[simp] theorem q_isi_int_bool : TB.isi "int" "bool" = some false := by decide +kernel
@[simp] theorem q_isi_int_tuple : TB.isi "int" "tuple" = some false := by decide +kernel
@[simp] theorem q_isi_int_list : TB.isi "int" "list" = some false := by decide +kernel
@[simp] theorem q_ty_str {st : Sto} (x : Str) : tyName st (.str x) = some "str" := rfl
@[simp] theorem q_isi_str_str : TB.isi "str" "str" = some true := by decide +kernel
@[simp] theorem q_isi_str_int : TB.isi "str" "int" = some false := by decide +kernel
@[simp] theorem q_isi_str_bool : TB.isi "str" "bool" = some false := by decide +kernel
@[simp] theorem q_isi_str_tuple : TB.isi "str" "tuple" = some false := by decide +kernel
@[simp] theorem q_isi_str_list : TB.isi "str" "list" = some false := by decide +kernel
@[simp] theorem q_ty_tup {st : Sto} (l : List D) : tyName st (.tup l) = some "tuple" := rfl
@[simp] theorem q_isi_tuple_str : TB.isi "tuple" "str" = some false := by decide +kernel
@[simp] theorem q_isi_tuple_int : TB.isi "tuple" "int" = some false := by decide +kernel
@[simp] theorem q_isi_tuple_bool : TB.isi "tuple" "bool" = some false := by decide +kernel
@[simp] theorem q_isi_tuple_tuple : TB.isi "tuple" "tuple" = some true := by decide +kernel
@[simp] theorem q_isi_tuple_list : TB.isi "tuple" "list" = some false := by decide +kernel
@[simp] theorem q_ty_lst {st : Sto} (l : List D) : tyName st (.lst l) = some "list" := rfl
@[simp] theorem q_isi_list_str : TB.isi "list" "str" = some false := by decide +kernel
@[simp] theorem q_isi_list_int : TB.isi "list" "int" = some false := by decide +kernel
@[simp] theorem q_isi_list_bool : TB.isi "list" "bool" = some false := by decide +kernel
@[simp] theorem q_isi_list_tuple : TB.isi "list" "tuple" = some false := by decide +kernel
@[simp] theorem q_isi_list_list : TB.isi "list" "list" = some true := by decide +kernel
@[simp] theorem q_ix_tup {st : Sto} (l : List D) (i : Int) : idxT st (.tup l) (.int i) = atI l i := rfl
@[simp] theorem q_ix_lst {st : Sto} (l : List D) (i : Int) : idxT st (.lst l) (.int i) = atI l i := rfl
@[simp] theorem q_ix_scr {st : Sto} (l : List Int) (i : Int) : idxT st (.scr l) (.int i) = (atI l i).map .int := rfl
@[simp] theorem q_bt_one (i : Nat) (d : D) (ρ : Lo) : bindT (.one i) d ρ = some (ρ.set i (some d)) := rfl
@[simp] theorem q_sq_lst {st : Sto} (l : List D) : srcQ st (.lst l) = some ⟨l, none⟩ := rfl
@[simp] theorem q_sq_tup {st : Sto} (l : List D) : srcQ st (.tup l) = some ⟨l, none⟩ := rfl
@[simp] theorem q_sq_str {st : Sto} (z : Str) : srcQ st (.str z) = some ⟨signs z, none⟩ := rfl
@[simp] theorem q_lo_lst {st : Sto} (l : List D) : lstOf st (.lst l) = some l := rfl
@[simp] theorem q_len_str {st : Sto} {P : D → Sto → Prop} {E : Str → Sto → Prop} (z : Str) : wp (gLen [.str z]) st P E = P (.int z.length) st := rfl
@[simp] theorem q_len_tup {st : Sto} {P : D → Sto → Prop} {E : Str → Sto → Prop} (l : List D) : wp (gLen [.tup l]) st P E = P (.int l.length) st := rfl
@[simp] theorem q_len_lst {st : Sto} {P : D → Sto → Prop} {E : Str → Sto → Prop} (l : List D) : wp (gLen [.lst l]) st P E = P (.int l.length) st := rfl
@[simp] theorem q_len_scr {st : Sto} {P : D → Sto → Prop} {E : Str → Sto → Prop} (l : List Int) : wp (gLen [.scr l]) st P E = P (.int l.length) st := rfl
@[simp] theorem q_add_int {st : Sto} {P : D → Sto → Prop} {E : Str → Sto → Prop} (m : Bool) (i j : Int) : wp (opAdd m (.int i) (.int j)) st P E = P (.int (i + j)) st := rfl
@[simp] theorem q_add_tup {st : Sto} {P : D → Sto → Prop} {E : Str → Sto → Prop} (m : Bool) (i j : List D) : wp (opAdd m (.tup i) (.tup j)) st P E = ((i ++ j).length ≤ sizeLine ∧ P (.tup (i ++ j)) st) := wp_mkT _
@[simp] theorem q_add_lst {st : Sto} {P : D → Sto → Prop} {E : Str → Sto → Prop} (m : Bool) (i j : List D) : wp (opAdd m (.lst i) (.lst j)) st P E = wp (mkL m (i ++ j)) st P E := rfl
@[simp] theorem q_sub_int {st : Sto} {P : D → Sto → Prop} {E : Str → Sto → Prop} (i j : Int) : wp (opI fSub (.int i) (.int j)) st P E = P (.int (i - j)) st := rfl
@[simp] theorem q_mod_int {st : Sto} {P : D → Sto → Prop} {E : Str → Sto → Prop} (i j : Int) : wp (opI fMod (.int i) (.int j)) st P E = (0 < j ∧ P (.int (i % j)) st) := by
  show wp (M.look _) st P E = _
  rw [wp_look]; unfold fMod; by_cases h : 0 < j <;> simp [h, lk_some, lk_none]
@[simp] theorem q_div_int {st : Sto} {P : D → Sto → Prop} {E : Str → Sto → Prop} (i j : Int) : wp (opI fDiv (.int i) (.int j)) st P E = ((0 < j ∧ j < 1073741824) ∧ P (.int (i / j)) st) := by
  show wp (M.look _) st P E = _
  rw [wp_look]; unfold fDiv; by_cases h : 0 < j ∧ j < 1073741824 <;> simp [h, lk_some, lk_none]
@[simp] theorem q_mul_int {st : Sto} {P : D → Sto → Prop} {E : Str → Sto → Prop} (m : Bool) (i j : Int) : wp (opMul m (.int i) (.int j)) st P E = (((-(2 ^ 64) < i ∧ i < 2 ^ 64) ∨ (-(2 ^ 64) < j ∧ j < 2 ^ 64)) ∧ P (.int (i * j)) st) := by
  show wp (M.look _) st P E = _
  rw [wp_look]; unfold fMul; by_cases h : (-(2 ^ 64) < i ∧ i < 2 ^ 64) ∨ (-(2 ^ 64) < j ∧ j < 2 ^ 64)
  · rw [if_pos h]; show P _ st = _; rw [eq_true h, true_and]
  · rw [if_neg h]; show False = _; rw [eq_false h, false_and]
@[simp] theorem q_oLt {st : Sto} {P : D → Sto → Prop} {E : Str → Sto → Prop} (i j : Int) : wp (opLt (.int i) (.int j)) st P E = P (.bl (decide (i < j))) st := rfl
@[simp] theorem q_oLe {st : Sto} {P : D → Sto → Prop} {E : Str → Sto → Prop} (i j : Int) : wp (opLe (.int i) (.int j)) st P E = P (.bl (decide (i ≤ j))) st := rfl
@[simp] theorem q_oGt {st : Sto} {P : D → Sto → Prop} {E : Str → Sto → Prop} (i j : Int) : wp (opGt (.int i) (.int j)) st P E = P (.bl (decide (j < i))) st := rfl
@[simp] theorem q_oGe {st : Sto} {P : D → Sto → Prop} {E : Str → Sto → Prop} (i j : Int) : wp (opGe (.int i) (.int j)) st P E = P (.bl (decide (j ≤ i))) st := rfl
@[simp] theorem q_sLt {st : Sto} {P : D → Sto → Prop} {E : Str → Sto → Prop} (i j : Str) : wp (opLt (.str i) (.str j)) st P E = P (.bl (decide (i.cps.toList < j.cps.toList))) st := rfl
@[simp] theorem q_sLe {st : Sto} {P : D → Sto → Prop} {E : Str → Sto → Prop} (i j : Str) : wp (opLe (.str i) (.str j)) st P E = P (.bl (!decide (j.cps.toList < i.cps.toList))) st := rfl
@[simp] theorem q_sGt {st : Sto} {P : D → Sto → Prop} {E : Str → Sto → Prop} (i j : Str) : wp (opGt (.str i) (.str j)) st P E = P (.bl (decide (j.cps.toList < i.cps.toList))) st := rfl
@[simp] theorem q_sGe {st : Sto} {P : D → Sto → Prop} {E : Str → Sto → Prop} (i j : Str) : wp (opGe (.str i) (.str j)) st P E = P (.bl (!decide (i.cps.toList < j.cps.toList))) st := rfl
@[simp] theorem q_eq {st : Sto} {P : D → Sto → Prop} {E : Str → Sto → Prop} (d e : D) : wp (opEq d e) st P E = lk (eqT st d e) (fun b => P (.bl b) st) := by
  show wp (M.look _) st P E = _
  rw [wp_look]; cases eqT st d e <;> rfl
@[simp] theorem q_ne {st : Sto} {P : D → Sto → Prop} {E : Str → Sto → Prop} (d e : D) : wp (opNe d e) st P E = lk (eqT st d e) (fun b => P (.bl (!b)) st) := by
  show wp (M.look _) st P E = _
  rw [wp_look]; cases eqT st d e <;> rfl
@[simp] theorem q_in {st : Sto} {P : D → Sto → Prop} {E : Str → Sto → Prop} (d e : D) : wp (opIn d e) st P E = lk (inT st d e) (fun b => P (.bl b) st) := by
  show wp (M.look _) st P E = _
  rw [wp_look]; cases inT st d e <;> rfl
@[simp] theorem q_nin {st : Sto} {P : D → Sto → Prop} {E : Str → Sto → Prop} (d e : D) : wp (opNotIn d e) st P E = lk (inT st d e) (fun b => P (.bl (!b)) st) := by
  show wp (M.look _) st P E = _
  rw [wp_look]; cases inT st d e <;> rfl
@[simp] theorem q_is_non {st : Sto} {P : D → Sto → Prop} {E : Str → Sto → Prop} (d : D) : wp (opIs d .non) st P E = P (.bl d.isNon) st := by cases d <;> rfl
@[simp] theorem q_isn_non {st : Sto} {P : D → Sto → Prop} {E : Str → Sto → Prop} (d : D) : wp (opIsNot d .non) st P E = P (.bl (!d.isNon)) st := by cases d <;> rfl
@[simp] theorem q_isn_bl (b : Bool) : D.isNon (.bl b) = false := rfl
@[simp] theorem q_isn_int (i : Int) : D.isNon (.int i) = false := rfl
@[simp] theorem q_isn_str (x : Str) : D.isNon (.str x) = false := rfl
@[simp] theorem q_isn_tup (l : List D) : D.isNon (.tup l) = false := rfl
@[simp] theorem q_isn_lst (l : List D) : D.isNon (.lst l) = false := rfl
@[simp] theorem q_isn_ref (l : Nat) : D.isNon (.ref l) = false := rfl
@[simp] theorem q_isn_scr (l : List Int) : D.isNon (.scr l) = false := rfl
@[simp] theorem q_all {st : Sto} {P : D → Sto → Prop} {E : Str → Sto → Prop} (l : List D) : wp (gAll [.lst l]) st P E = lk (boolsOf l) (fun bs => P (.bl (bs.all id)) st) := by
  show wp (M.look _) st P E = _
  rw [wp_look]; show lk (Option.map _ (boolsOf l)) _ = _; cases boolsOf l <;> rfl
@[simp] theorem q_any {st : Sto} {P : D → Sto → Prop} {E : Str → Sto → Prop} (l : List D) : wp (gAny [.lst l]) st P E = lk (boolsOf l) (fun bs => P (.bl (bs.any id)) st) := by
  show wp (M.look _) st P E = _
  rw [wp_look]; show lk (Option.map _ (boolsOf l)) _ = _; cases boolsOf l <;> rfl
@[simp] theorem q_list_tup {st : Sto} {P : D → Sto → Prop} {E : Str → Sto → Prop} (m : Bool) (l : List D) : wp (gList m [.tup l]) st P E = wp (mkL m l) st P E := rfl
@[simp] theorem q_list_lst {st : Sto} {P : D → Sto → Prop} {E : Str → Sto → Prop} (m : Bool) (l : List D) : wp (gList m [.lst l]) st P E = wp (mkL m l) st P E := rfl
@[simp] theorem q_tup_tup {st : Sto} {P : D → Sto → Prop} {E : Str → Sto → Prop} (l : List D) : wp (gTuple [.tup l]) st P E = P (.tup l) st := rfl
@[simp] theorem q_tup_lst {st : Sto} {P : D → Sto → Prop} {E : Str → Sto → Prop} (l : List D) : wp (gTuple [.lst l]) st P E = (l.length ≤ sizeLine ∧ P (.tup l) st) := wp_mkT _
@[simp] theorem q_rev_tup {st : Sto} {P : D → Sto → Prop} {E : Str → Sto → Prop} (m : Bool) (l : List D) : wp (gRev m (.tup l)) st P E = P (.tup l.reverse) st := rfl
@[simp] theorem q_rev_lst {st : Sto} {P : D → Sto → Prop} {E : Str → Sto → Prop} (m : Bool) (l : List D) : wp (gRev m (.lst l)) st P E = wp (mkL m l.reverse) st P E := rfl
@[simp] theorem q_slc_tup {st : Sto} {P : D → Sto → Prop} {E : Str → Sto → Prop} (m : Bool) (l : List D) (lo hi : Option Int) : wp (slcT m (.tup l) lo hi) st P E = P (.tup (cutG l lo hi)) st := rfl
@[simp] theorem q_slc_lst {st : Sto} {P : D → Sto → Prop} {E : Str → Sto → Prop} (m : Bool) (l : List D) (lo hi : Option Int) : wp (slcT m (.lst l) lo hi) st P E = wp (mkL m (cutG l lo hi)) st P E := rfl
@[simp] theorem q_rng (n : Nat) (h : n ≤ 16777216) : srcR1 (.int n) = some ⟨rngL 0 n, none⟩ := by
  show (if 0 ≤ (n : Int) ∧ (n : Int) ≤ 16777216 then some (⟨rngL 0 ((n : Int)).toNat, none⟩ : Src) else none) = _
  rw [if_pos (by omega)]; rfl
@[simp] theorem q_srcok (l : List D) (st : Sto) : Src.ok ⟨l, none⟩ st = True := rfl
@[simp] theorem q_isb {st : Sto} {P : D → Sto → Prop} {E : Str → Sto → Prop} (a b : Bool) : wp (opIs (.bl a) (.bl b)) st P E = P (.bl (a == b)) st := rfl
@[simp] theorem eqT_int {st : Sto} (i j : Int) : eqT st (.int i) (.int j) = some (decide (i = j)) := by
  simp [eqT, pyT, D.py, PyData.depth, PyData.eqv, BEq.beq]
@[simp] theorem eqT_str {st : Sto} (i j : Str) : eqT st (.str i) (.str j) = some (decide (i = j)) := by
  simp [eqT, pyT, D.py, PyData.depth, PyData.eqv, BEq.beq]
@[simp] theorem eqT_bl {st : Sto} (i j : Bool) : eqT st (.bl i) (.bl j) = some (decide (i = j)) := by
  simp [eqT, pyT, D.py, PyData.depth, PyData.eqv, BEq.beq]
@[simp] theorem in2i {st : Sto} (i a b : Int) : inT st (.int i) (.tup [.int a, .int b]) = some (decide (i = a ∨ i = b)) := by
  simp [inT, inL, D.py, D.pys, PyData.depth, PyData.depthAll, PyData.eqv, BEq.beq, eq_comm]
@[simp] theorem in2s {st : Sto} (i a b : Str) : inT st (.str i) (.tup [.str a, .str b]) = some (decide (i = a ∨ i = b)) := by
  simp [inT, inL, D.py, D.pys, PyData.depth, PyData.depthAll, PyData.eqv, BEq.beq, eq_comm]
@[simp] theorem at0 {α : Type} (a : α) (l : List α) : atI (a :: l) 0 = some a := by simp [atI, ixN]
@[simp] theorem at1 {α : Type} (a b : α) (l : List α) : atI (a :: b :: l) 1 = some b := by
  have : (1 : Int) < (l.length : Int) + 1 + 1 := by omega
  simp [atI, ixN, this]
@[simp] theorem at2 {α : Type} (a b c : α) (l : List α) : atI (a :: b :: c :: l) 2 = some c := by
  have : (2 : Int) < (l.length : Int) + 1 + 1 + 1 := by omega
  simp [atI, ixN, this]
theorem at_of {α : Type} {l : List α} {i : Int} (h0 : 0 ≤ i) (h : i < l.length) : ∃ x, x ∈ l ∧ atI l i = some x := by
  have h2 : i.toNat < l.length := by omega
  refine ⟨l[i.toNat], List.getElem_mem h2, ?_⟩
  simp [atI, ixN, h0, h, List.getElem?_eq_getElem h2]
@[simp] theorem u_len : Blt.g .len = gLen := rfl
@[simp] theorem u_all : Blt.g .all = gAll := rfl
@[simp] theorem u_any : Blt.g .any = gAny := rfl
@[simp] theorem u_tuple : Blt.g .tuple = gTuple := rfl
@[simp] theorem u_int : Blt.g .int = gInt := rfl
@[simp] theorem u_str : Blt.g .str = gStr := rfl
@[simp] theorem u_list (m : Bool) : Blt.g (.list m) = gList m := rfl
@[simp] theorem u_append : Bm.g .append = gAppend := rfl
@[simp] theorem u_appendT : Bm.T .append = .list := rfl
@[simp] theorem u_extend : Bm.g .extend = gExtend := rfl
@[simp] theorem u_extendT : Bm.T .extend = .list := rfl
@[simp] theorem u_pop : Bm.g .pop = gPop := rfl
@[simp] theorem u_popT : Bm.T .pop = .list := rfl
@[simp] theorem u_add (m : Bool) : Bop.g (.add m) = opAdd m := rfl
@[simp] theorem u_sub : Bop.g .sub = opI fSub := rfl
@[simp] theorem u_mod : Bop.g .mod = opI fMod := rfl
@[simp] theorem u_div : Bop.g .div = opI fDiv := rfl
@[simp] theorem u_mul (m : Bool) : Bop.g (.mul m) = opMul m := rfl
@[simp] theorem u_Eq : cmpG .Eq = opEq := rfl
@[simp] theorem u_NotEq : cmpG .NotEq = opNe := rfl
@[simp] theorem u_Lt : cmpG .Lt = opLt := rfl
@[simp] theorem u_LtE : cmpG .LtE = opLe := rfl
@[simp] theorem u_Gt : cmpG .Gt = opGt := rfl
@[simp] theorem u_GtE : cmpG .GtE = opGe := rfl
@[simp] theorem u_Is : cmpG .Is = opIs := rfl
@[simp] theorem u_IsNot : cmpG .IsNot = opIsNot := rfl
@[simp] theorem u_In : cmpG .In = opIn := rfl
@[simp] theorem u_NotIn : cmpG .NotIn = opNotIn := rfl
@[simp] theorem u_tystr : Ty.nm .str = "str" := rfl
@[simp] theorem u_tyint : Ty.nm .int = "int" := rfl
@[simp] theorem u_tybool : Ty.nm .bool = "bool" := rfl
@[simp] theorem u_tytuple : Ty.nm .tuple = "tuple" := rfl
@[simp] theorem u_tylist : Ty.nm .list = "list" := rfl
@[simp] theorem u_sz : sizeLine = 16777216 := by decide
@[simp] theorem u_sum : Blt.g .sum = gSum := rfl
@[simp] theorem q_sum {st : Sto} {P : D → Sto → Prop} {E : Str → Sto → Prop} (l : List D) : wp (gSum [.lst l]) st P E = lk (intsOf l) (fun ns => P (.int ns.sum) st) := by
  show wp (M.look _) st P E = _
  rw [wp_look]; show lk (Option.map _ (intsOf l)) _ = _; cases intsOf l <;> rfl
@[simp] theorem q_mul_tup {st : Sto} {P : D → Sto → Prop} {E : Str → Sto → Prop} (m b : Bool) (l : List D) : wp (opMul m (.tup l) (.int (if b then 1 else 0))) st P E = P (.tup (if b then l else [])) st := by
  unfold wp opMul
  cases b
  · by_cases h : l = []
    · simp [h]
    · simp [h]
  · simp
@[simp] theorem q_int_bl {st : Sto} {P : D → Sto → Prop} {E : Str → Sto → Prop} (b : Bool) : wp (gInt [.bl b]) st P E = P (.int (if b then 1 else 0)) st := rfl
@[simp] theorem q_int_int {st : Sto} {P : D → Sto → Prop} {E : Str → Sto → Prop} (i : Int) : wp (gInt [.int i]) st P E = P (.int i) st := rfl
def isD0 : Option MO → Option Unit
  | some (.dct []) => some ()
  | _ => none
@[simp] theorem isD0_eq : isD0 (some (.dct [])) = some () := rfl
section
variable {cf : Str → List D → M D} {gc : Str → Option D} {ρ : Lo} {st : Sto} {P : D → Sto → Prop} {PB : Bool → Sto → Prop} {E : Str → Sto → Prop} {Q : Out → Sto → Prop}
@[simp ↓] theorem we_dsp (ks : List Key) (es : Es) : wp (ev cf gc (.dsp ks es) ρ) st P E = wp (evs cf gc es ρ) (st ++ [.dct []]) (fun ds st2 => lk (isD0 st2[st.length]?) fun _ => if ds.length = ks.length then P (.ref st.length) (st2.set st.length (.dct (mergeG [] (ks.zip ds)))) else False) E := by
  rw [ev]
  unfold wp mDsp
  generalize evs cf gc es ρ (st ++ [.dct []]) = r
  rcases r with _ | ⟨⟨ds⟩ | ⟨c⟩, st2⟩
  · rfl
  · dsimp only
    generalize st2[st.length]? = q
    rcases q with _ | ⟨_ | ⟨_ | _⟩ | _⟩ <;> try rfl
    by_cases h : ds.length = ks.length
    · simp [h]
    · simp [h]
  · rfl
@[simp ↓] theorem we_dnew : wp (ev cf gc .dnew ρ) st P E = P (.ref st.length) (st ++ [.dct []]) := by rw [ev]; rfl
@[simp ↓] theorem ws_par3 (i j l : Nat) (a b c : TB.E) : wpS (exS cf gc (.par3 i j l a b c)) ρ st Q = wp (ev cf gc a ρ) st (fun x st1 => wp (ev cf gc b ρ) st1 (fun y st2 => wp (ev cf gc c ρ) st2 (fun z st3 => Q (.nx (((ρ.set i (some x)).set j (some y)).set l (some z))) st3) (fun c st1 => Q (.ex c ρ) st1)) (fun c st1 => Q (.ex c ρ) st1)) (fun c st1 => Q (.ex c ρ) st1) := by
  rw [exS]; refine (w_lift _ _).trans ?_; rw [wp_bind]; congr 1; funext d st1; rw [wp_bind]; congr 1; funext d st1; rw [wp_bind]; congr 1
end
@[simp] theorem set_end (st : Sto) (a b : MO) : (st ++ [a]).set st.length b = st ++ [b] := by simp
@[simp] theorem ix_end (st : Sto) (kvs : List (Key × D)) (e : D) : idxT (st ++ [.dct kvs]) (.ref st.length) e = (keyOf e).bind fun k => valG kvs k := by
  simp [idxT]
@[simp] theorem keyOf_str (x : Str) : keyOf (.str x) = some (.inr x) := rfl
@[simp] theorem keyOf_int (x : Int) : keyOf (.int x) = some (.inl x) := rfl
theorem ix_dct {st : Sto} {n : Nat} {kvs : List (Key × D)} (h : st[n]? = some (.dct kvs)) (e : D) : idxT st (.ref n) e = (keyOf e).bind fun k => valG kvs k := by
  simp [idxT, h]
/-! ### what is left of the store behind a def -/
def Wf (st : Sto) : Prop := ∀ o ∈ st, o.rlt st.length = true
theorem fnQ_drop {st st1 : Sto} {P : D → Sto → Prop} {E : Str → Sto → Prop} {d : D} (hn : ∀ i, d ≠ .ref i) (hr : d.rlt st.length = true) (h : st1.take st.length = st ∨ ∀ o ∈ st1.take st.length, o.rlt st.length = true) : fnQ st P E (.rt d) st1 = P d (st1.take st.length) := by
  show wp _ _ _ _ = _
  have e : frz st.length st1 d = d := by
    unfold frz
    split
    · exact absurd rfl (hn _)
    · rfl
  unfold wp dropM
  dsimp only
  rw [if_pos ⟨by rw [e]; exact hr, h⟩, e]
theorem fnQ_list {st st1 : Sto} {P : D → Sto → Prop} {E : Str → Sto → Prop} {i : Nat} {l : List D} (hi : st.length ≤ i) (hl : st1[i]? = some (.lst l)) (hr : D.rlts st.length l = true) (h : st1.take st.length = st ∨ ∀ o ∈ st1.take st.length, o.rlt st.length = true) : fnQ st P E (.rt (.ref i)) st1 = P (.lst l) (st1.take st.length) := by
  show wp _ _ _ _ = _
  have e : frz st.length st1 (.ref i) = .lst l := by
    simp [frz, hl, Nat.not_lt.mpr hi]
  unfold wp dropM
  dsimp only
  rw [if_pos ⟨by rw [e]; exact hr, h⟩, e]
theorem fnQ_any {st st1 : Sto} {P : D → Sto → Prop} {E : Str → Sto → Prop} {d : D} (hd : ∀ i, d ≠ .ref i) (h1 : P d st1) (h2 : P d (st1.take st.length)) : fnQ st P E (.rt d) st1 := by
  show wp _ _ _ _
  have e : frz st.length st1 d = d := by
    unfold frz
    split
    · exact absurd rfl (hd _)
    · rfl
  unfold wp dropM
  dsimp only
  rw [e]
  by_cases h : DropOk st st1 d
  · rw [if_pos h]; exact h2
  · rw [if_neg h]; exact h1
end TB
set_option Elab.async false
set_option linter.all false
set_option maxRecDepth 100000
set_option maxHeartbeats 4000000
/-! TB15: drawing and picking -/
namespace TB
open PySem PySem.Spec L2
def k_draw : Def := ⟨"_law_draw", ["script", "town", "many"], ["script", "town", "many", "k", "cell", "number", "more"],
  (.cons (.expr (.bm .append (.var 1) (.cons (.int 0) .nil)))
  (.cons (.asg (.one 3) (.blt .len (.var 1)))
  (.cons (.asg (.one 4) (.int 0))
  (.cons (.ife (.var 0)
   (.cons (.asg (.one 4) (.idx (.var 0) (.bin .mod (.var 3) (.blt .len (.var 0)))))
   .nil)
   .nil)
  (.cons (.asg (.one 5) (.bin .mod (.bin (.add false) (.var 4) (.bin (.mul false) (.int 104729) (.var 3))) (.int 4294967291)))
  (.cons (.asg (.one 5) (.bin .mod (.bin (.mul false) (.bin .mod (.bin (.mul false) (.var 5) (.var 5)) (.int 4294967279)) (.int 48271)) (.int 4294967291)))
  (.cons (.asg (.one 6) (.bin .mod (.bin (.mul false) (.bin .mod (.bin (.mul false) (.var 5) (.var 5)) (.int 4294967279)) (.int 69621)) (.int 4294967291)))
  (.cons (.ret (.bin .mod (.bin (.add false) (.bin (.mul false) (.bin .div (.var 5) (.int 64)) (.int 67108864)) (.bin .div (.var 6) (.int 64))) (.var 2)))
  .nil))))))))⟩
def k_pick : Def := ⟨"_law_pick", ["script", "town", "some"], ["script", "town", "some"],
  (.cons (.ret (.idx (.var 2) (.call "_law_draw" 3 (.cons (.var 0) (.cons (.var 1) (.cons (.blt .len (.var 2)) .nil))))))
  .nil)⟩
section
variable {T : Tab} {gc : Str → Option D} {n : Nat} {st : Sto} {P : D → Sto → Prop} {E : Str → Sto → Prop}
theorem lo_ref {i : Nat} {l : List D} (h : st[i]? = some (.lst l)) : lstOf st (.ref i) = some l := by unfold lstOf; simp [h]
theorem q_len_ref {i : Nat} {l : List D} (h : st[i]? = some (.lst l)) : wp (gLen [.ref i]) st P E = P (.int l.length) st := by
  show wp (M.look _) st P E = _
  rw [wp_look]; simp [lenT, h]
theorem q_app {i : Nat} {l : List D} {x : D} (h : st[i]? = some (.lst l)) (hl : l.length < 16777216) : wp (gAppend (.ref i) [x]) st P E = P .non (st.set i (.lst (l ++ [x]))) := by
  unfold wp gAppend
  simp [h, hl]
theorem bt_ref {i : Nat} {l : List D} (h : st[i]? = some (.lst l)) : btOk st (.ref i) .list = true := by
  show (lstOf st (.ref i)).isSome = true
  rw [lo_ref h]; rfl
abbrev zeros (k : Nat) : List D := List.replicate k (.int 0)
def k_tail : Ss :=
  (.cons (.asg (.one 5) (.bin .mod (.bin (.add false) (.var 4) (.bin (.mul false) (.int 104729) (.var 3))) (.int 4294967291)))
  (.cons (.asg (.one 5) (.bin .mod (.bin (.mul false) (.bin .mod (.bin (.mul false) (.var 5) (.var 5)) (.int 4294967279)) (.int 48271)) (.int 4294967291)))
  (.cons (.asg (.one 6) (.bin .mod (.bin (.mul false) (.bin .mod (.bin (.mul false) (.var 5) (.var 5)) (.int 4294967279)) (.int 69621)) (.int 4294967291)))
  (.cons (.ret (.bin .mod (.bin (.add false) (.bin (.mul false) (.bin .div (.var 5) (.int 64)) (.int 67108864)) (.bin .div (.var 6) (.int 64))) (.var 2)))
  .nil))))
theorem sm (a : Int) (h : 0 ≤ a) (h2 : a < 4294967296) : -(2 ^ 64) < a ∧ a < 2 ^ 64 := by omega
theorem q_addi (m : Bool) (i j : Int) : wp (opAdd m (.int i) (.int j)) st P E = P (.int (i + j)) st := rfl
theorem q_muli {m : Bool} {i j : Int} (h : (-(2 ^ 64) < i ∧ i < 2 ^ 64) ∨ (-(2 ^ 64) < j ∧ j < 2 ^ 64)) : wp (opMul m (.int i) (.int j)) st P E = P (.int (i * j)) st := by
  rw [q_mul_int, eq_true h, true_and]
theorem q_modi {i j : Int} (h : 0 < j) : wp (opI fMod (.int i) (.int j)) st P E = P (.int (i % j)) st := by
  rw [q_mod_int, eq_true h, true_and]
theorem q_divi {i j : Int} (h : 0 < j ∧ j < 1073741824) : wp (opI fDiv (.int i) (.int j)) st P E = P (.int (i / j)) st := by
  rw [q_div_int, eq_true h, true_and]
theorem k_tail_at {ns : List Int} {i : Nat} {m k c : Int} (hm : 0 < m) {Q : Out → Sto → Prop} (h : ∀ j : Int, 0 ≤ j → j < m → Q (.rt (.int j)) st) :
    wpS (exSs (cfN T gc n) gc k_tail) [some (.scr ns), some (.ref i), some (.int m), some (.int k), some (.int c), none, none] st Q := by
  unfold k_tail
  have s1 : (-(2 ^ 64) < (104729 : Int) ∧ (104729 : Int) < 2 ^ 64) ∨ (-(2 ^ 64) < k ∧ k < 2 ^ 64) := .inl (by omega)
  rw [ws_cons, ws_asg, we_bin, we_bin, we_var]
  simp only [List.getElem?_cons_succ, List.getElem?_cons_zero, Option.bind_some, id, lk_some, we_bin, we_int, we_var, Bop.g, q_muli s1, q_addi, q_modi (show (0 : Int) < 4294967291 by omega), q_bt_one, List.set_cons_succ, List.set_cons_zero, seqQ_nx]
  generalize hx : (c + 104729 * k) % 4294967291 = x
  have x1 : 0 ≤ x := by rw [← hx]; exact Int.emod_nonneg _ (by omega)
  have x2 : x < 4294967291 := by rw [← hx]; exact Int.emod_lt_of_pos _ (by omega)
  have s2 : (-(2 ^ 64) < x ∧ x < 2 ^ 64) ∨ (-(2 ^ 64) < x ∧ x < 2 ^ 64) := .inl (by omega)
  have s3 : ∀ y : Int, (-(2 ^ 64) < y ∧ y < 2 ^ 64) ∨ (-(2 ^ 64) < (48271 : Int) ∧ (48271 : Int) < 2 ^ 64) := fun y => .inr (by omega)
  rw [ws_cons, ws_asg, we_bin, we_bin, we_bin]
  simp only [List.getElem?_cons_succ, List.getElem?_cons_zero, Option.bind_some, id, lk_some, we_bin, we_int, we_var, Bop.g, q_muli s2, q_muli (s3 _), q_addi, q_modi (show (0 : Int) < 4294967291 by omega), q_modi (show (0 : Int) < 4294967279 by omega), q_bt_one, List.set_cons_succ, List.set_cons_zero, seqQ_nx]
  generalize hy : x * x % 4294967279 * 48271 % 4294967291 = y
  have y1 : 0 ≤ y := by rw [← hy]; exact Int.emod_nonneg _ (by omega)
  have y2 : y < 4294967291 := by rw [← hy]; exact Int.emod_lt_of_pos _ (by omega)
  have s2 : (-(2 ^ 64) < y ∧ y < 2 ^ 64) ∨ (-(2 ^ 64) < y ∧ y < 2 ^ 64) := .inl (by omega)
  have s3 : ∀ y : Int, (-(2 ^ 64) < y ∧ y < 2 ^ 64) ∨ (-(2 ^ 64) < (69621 : Int) ∧ (69621 : Int) < 2 ^ 64) := fun y => .inr (by omega)
  rw [ws_cons, ws_asg, we_bin, we_bin, we_bin]
  simp only [List.getElem?_cons_succ, List.getElem?_cons_zero, Option.bind_some, id, lk_some, we_bin, we_int, we_var, Bop.g, q_muli s2, q_muli (s3 _), q_addi, q_modi (show (0 : Int) < 4294967291 by omega), q_modi (show (0 : Int) < 4294967279 by omega), q_bt_one, List.set_cons_succ, List.set_cons_zero, seqQ_nx]
  generalize hz : y * y % 4294967279 * 69621 % 4294967291 = z
  have s4 : ∀ y : Int, (-(2 ^ 64) < y ∧ y < 2 ^ 64) ∨ (-(2 ^ 64) < (67108864 : Int) ∧ (67108864 : Int) < 2 ^ 64) := fun y => .inr (by omega)
  rw [ws_cons, ws_ret, we_bin, we_bin, we_bin]
  simp only [List.getElem?_cons_succ, List.getElem?_cons_zero, Option.bind_some, id, lk_some, we_bin, we_int, we_var, Bop.g, q_divi (show (0 : Int) < 64 ∧ (64 : Int) < 1073741824 by omega), q_muli (s4 _), q_addi, q_modi hm, seqQ_rt]
  exact h _ (Int.emod_nonneg _ (by omega)) (Int.emod_lt_of_pos _ hm)
theorem draw_at (hT : T.get "_law_draw" = some k_draw) (hn : 0 < n) {ns : List Int} {i k : Nat} {m : Int} (hm : 0 < m) (hi : st[i]? = some (.lst (zeros k))) (hk : k < 1000000) :
    wp (cfN T gc n "_law_draw" [.scr ns, .ref i, .int m]) st (fun d st1 => ∃ j : Int, 0 ≤ j ∧ j < m ∧ d = .int j ∧ st1 = st.set i (.lst (zeros (k + 1)))) noX := by
  obtain ⟨n, rfl⟩ : ∃ k, n = k + 1 := ⟨n - 1, by omega⟩
  have hl : i < st.length := by
    rcases Nat.lt_or_ge i st.length with h | h
    · exact h
    · rw [List.getElem?_eq_none h] at hi; cases hi
  have h2 : (st.set i (.lst (zeros (k + 1))))[i]? = some (.lst (zeros (k + 1))) := List.getElem?_set_self hl
  have e : zeros k ++ [.int 0] = zeros (k + 1) := by unfold zeros; rw [List.replicate_succ']
  have hz : (zeros k).length < 16777216 := by rw [List.length_replicate]; omega
  rw [w_fn hT]
  show wpS (exSs _ _ (.cons _ (.cons _ (.cons _ (.cons _ k_tail))))) _ _ _
  have fin : ∀ (j : Int), 0 ≤ j → j < m → fnQ st (fun d st1 => ∃ j : Int, 0 ≤ j ∧ j < m ∧ d = .int j ∧ st1 = st.set i (.lst (zeros (k + 1)))) noX (Out.rt (.int j)) (st.set i (.lst (zeros (k + 1)))) := fun j h0 h1 => by
    rw [fnQ_rt (by simp) (fun i e => by cases e)]
    exact ⟨j, h0, h1, rfl, rfl⟩
  generalize hf : fnQ st (fun d st1 => ∃ j : Int, 0 ≤ j ∧ j < m ∧ d = .int j ∧ st1 = st.set i (.lst (zeros (k + 1)))) noX = F at fin ⊢
  simp only [k_draw, List.map, List.length, List.replicate, List.cons_append, List.nil_append]
  rw [ws_cons, ws_expr, we_bm, we_var]
  simp only [List.getElem?_cons_succ, List.getElem?_cons_zero, Option.bind_some, id, lk_some, Bm.T, bt_ref hi, wa_cons, wa_nil, we_int, Bm.g, q_app hi hz, e, if_true, seqQ_nx]
  rw [ws_cons, ws_asg, we_blt, we_var]
  simp only [List.getElem?_cons_succ, List.getElem?_cons_zero, Option.bind_some, id, lk_some, Blt.g, q_len_ref h2, q_bt_one, List.set_cons_succ, List.set_cons_zero, seqQ_nx]
  rw [ws_cons, ws_asg, we_int]
  simp only [lk_some, q_bt_one, List.set_cons_succ, List.set_cons_zero, seqQ_nx]
  rw [ws_cons, ws_if, wt_var, we_var]
  simp only [List.getElem?_cons_succ, List.getElem?_cons_zero, Option.bind_some, id, lk_some, q_tr_scr]
  have key : ∀ c : Int, wpS (exSs (cfN T gc n) gc k_tail) [some (D.scr ns), some (D.ref i), some (D.int m), some (D.int ↑(zeros (k + 1)).length), some (D.int c), none, none] (List.set st i (MO.lst (zeros (k + 1)))) F := fun c => k_tail_at hm fin
  cases ns with
  | nil =>
    simp only [List.isEmpty_nil, Bool.not_true, Bool.false_eq_true, if_false, ws_nil, seqQ_nx]
    exact key _
  | cons a ns =>
    have hp : (0 : Int) < ((a :: ns).length : Nat) := by rw [List.length_cons]; omega
    obtain ⟨x, hx, hx2⟩ := at_of (l := a :: ns) (i := ((zeros (k + 1)).length : Int) % ((a :: ns).length : Nat)) (Int.emod_nonneg _ (by omega)) (Int.emod_lt_of_pos _ hp)
    simp only [List.isEmpty_cons, Bool.not_false, if_true]
    rw [ws_cons, ws_asg, we_idx, we_var]
    simp only [List.getElem?_cons_succ, List.getElem?_cons_zero, Option.bind_some, id, lk_some, we_bin, we_blt, we_var, Blt.g, q_len_scr, Bop.g, q_modi hp, q_ix_scr, hx2, Option.map_some, q_bt_one, List.set_cons_succ, List.set_cons_zero, seqQ_nx, ws_nil]
    exact key x
theorem pick_at (hT : T.get "_law_draw" = some k_draw) (hP : T.get "_law_pick" = some k_pick) (hn : 1 < n) {ns : List Int} {i k : Nat} {l : List D} (hm : 0 < l.length) (hi : st[i]? = some (.lst (zeros k))) (hk : k < 1000000) (hr : ∀ x ∈ l, ∀ i, x ≠ .ref i) :
    wp (cfN T gc n "_law_pick" [.scr ns, .ref i, .lst l]) st (fun d st1 => d ∈ l ∧ st1 = st.set i (.lst (zeros (k + 1)))) noX := by
  obtain ⟨n, rfl⟩ : ∃ k, n = k + 1 := ⟨n - 1, by omega⟩
  rw [w_fn hP]
  simp only [k_pick, List.map, List.length, List.replicate, List.cons_append, List.nil_append]
  rw [ws_cons, ws_ret, we_idx, we_var]
  simp only [List.getElem?_cons_succ, List.getElem?_cons_zero, Option.bind_some, id, lk_some, we_call, wa_cons, wa_nil, we_var, we_blt, Blt.g, q_len_lst, List.length, if_true]
  refine wp_go (draw_at hT (by omega) (by omega) hi hk) ?_
  rintro _ _ ⟨j, h0, h1, rfl, rfl⟩
  obtain ⟨x, hx, hx2⟩ := at_of h0 h1
  simp only [q_ix_lst, hx2, lk_some, seqQ_rt]
  rw [fnQ_rt (by simp) (fun i e => absurd e (hr x hx i))]
  exact ⟨hx, rfl⟩
end
end TB
set_option Elab.async false
set_option linter.all false
set_option maxRecDepth 100000
set_option maxHeartbeats 4000000
/-! TB16: wishes -/
namespace TB
open PySem PySem.Spec L2
def k_wish : Def := ⟨"_law_wish", ["script", "town", "left"], ["script", "town", "left", "kind", "one"],
  (.cons (.asg (.one 3) (.call "_law_draw" 3 (.cons (.var 0) (.cons (.var 1) (.cons (.int 6) .nil)))))
  (.cons (.ife (.bor (.cons (.cmp .Lt (.var 2) (.int 2)) (.cons (.cmp .Lt (.var 3) (.int 2)) .nil)))
   (.cons (.ife (.cmp .Eq (.call "_law_draw" 3 (.cons (.var 0) (.cons (.var 1) (.cons (.int 2) .nil)))) (.int 0))
    (.cons (.ret (.tup (.cons (.str "mark") (.cons (.call "_law_pick" 3 (.cons (.var 0) (.cons (.var 1) (.cons (.lst false (.cons (.str "x") (.cons (.str "y") (.cons (.str "slow") (.cons (.str "no") .nil))))) .nil)))) .nil))))
    .nil)
    .nil)
   (.cons (.ret (.tup (.cons (.str "name") (.cons (.call "_law_pick" 3 (.cons (.var 0) (.cons (.var 1) (.cons (.lst false (.cons (.str "a") (.cons (.str "b") (.cons (.str "de") (.cons (.str "z") (.cons (.str "e") (.cons (.str "q") .nil))))))) .nil)))) .nil))))
   .nil))
   .nil)
  (.cons (.ife (.cmp .Eq (.var 3) (.int 2))
   (.cons (.ret (.tup (.cons (.str "not") (.cons (.call "_law_wish" 3 (.cons (.var 0) (.cons (.var 1) (.cons (.bin .sub (.var 2) (.int 1)) .nil)))) .nil))))
   .nil)
   .nil)
  (.cons (.asg (.one 4) (.call "_law_wish" 3 (.cons (.var 0) (.cons (.var 1) (.cons (.bin .sub (.var 2) (.int 1)) .nil)))))
  (.cons (.ret (.tup (.cons (.call "_law_pick" 3 (.cons (.var 0) (.cons (.var 1) (.cons (.lst false (.cons (.str "and") (.cons (.str "or") .nil))) .nil)))) (.cons (.var 4) (.cons (.call "_law_wish" 3 (.cons (.var 0) (.cons (.var 1) (.cons (.bin .sub (.var 2) (.int 1)) .nil)))) .nil)))))
  .nil)))))⟩
section
variable {T : Tab} {gc : Str → Option D} {n : Nat} {st : Sto} {P : D → Sto → Prop} {E : Str → Sto → Prop}
theorem tw_lt {i k : Nat} (h : st[i]? = some (.lst (zeros k))) : i < st.length := by
  rcases Nat.lt_or_ge i st.length with z | z
  · exact z
  · rw [List.getElem?_eq_none z] at h; cases h
theorem tw_set {i k : Nat} (h : st[i]? = some (.lst (zeros k))) (k' : Nat) : (st.set i (.lst (zeros k')))[i]? = some (.lst (zeros k')) := List.getElem?_set_self (tw_lt h)
/-- a thing of short tuples -/
def wsh : Nat → D → Bool
  | _, .non => true
  | _, .bl _ => true
  | _, .int _ => true
  | _, .str _ => true
  | 0, _ => false
  | n + 1, .tup l => decide (l.length ≤ 3) && l.all (wsh n)
  | _ + 1, _ => false
theorem wsh_str (n : Nat) (x : Str) : wsh n (.str x) = true := by cases n <;> rfl
theorem wsh_mono : ∀ (n : Nat) (d : D), wsh n d = true → wsh (n + 1) d = true
  | n, .non, _ => by cases n <;> rfl
  | n, .bl _, _ => by cases n <;> rfl
  | n, .int _, _ => by cases n <;> rfl
  | n, .str _, _ => by cases n <;> rfl
  | 0, .tup _, h => by cases h
  | n + 1, .tup l, h => by
    have h : (decide (l.length ≤ 3) && l.all (wsh n)) = true := h
    show (decide (l.length ≤ 3) && l.all (wsh (n + 1))) = true
    simp only [Bool.and_eq_true, List.all_eq_true] at h ⊢
    exact ⟨h.1, fun x hx => wsh_mono n x (h.2 x hx)⟩
  | 0, .lst _, h => by cases h
  | _ + 1, .lst _, h => by cases h
  | 0, .ref _, h => by cases h
  | _ + 1, .ref _, h => by cases h
  | 0, .fn _, h => by cases h
  | _ + 1, .fn _, h => by cases h
  | 0, .scr _, h => by cases h
  | _ + 1, .scr _, h => by cases h
def wc : Nat → Nat
  | 0 => 3
  | l + 1 => 3 + 2 * wc l
theorem wc_ge (l : Nat) : 3 ≤ wc l := by cases l <;> simp [wc]
theorem wish_at (hT : T.get "_law_draw" = some k_draw) (hP : T.get "_law_pick" = some k_pick) (hW : T.get "_law_wish" = some k_wish) {ns : List Int} {i : Nat} : ∀ (left n k : Nat) (st : Sto), left + 3 < n → k + wc left < 1000000 → st[i]? = some (.lst (zeros k)) →
    wp (cfN T gc n "_law_wish" [.scr ns, .ref i, .int left]) st (fun d st1 => ∃ k', k' ≤ k + wc left ∧ wsh (left + 1) d = true ∧ (∃ l, d = .tup l) ∧ st1 = st.set i (.lst (zeros k'))) noX := by
  intro left
  induction left with
  | zero =>
    intro n k st hn hk hi
    obtain ⟨n, rfl⟩ : ∃ k, n = k + 1 := ⟨n - 1, by omega⟩
    have hw : wc 0 = 3 := rfl
    rw [w_fn hW]
    simp [k_wish]
    refine wp_go (draw_at hT (by omega) (by omega) hi (by omega)) ?_
    rintro _ _ ⟨j, h0, h1, rfl, rfl⟩
    refine wp_go (draw_at hT (by omega) (by omega) (tw_set hi _) (by omega)) ?_
    rintro _ _ ⟨j2, h0, h1, rfl, rfl⟩
    simp
    split
    · refine wp_go (pick_at hT hP (by omega) (by simp) (tw_set hi _) (by omega) (by simp)) ?_
      rintro d _ ⟨hd, rfl⟩
      rw [fnQ_rt (by simp) (fun i e => by cases e)]
      refine ⟨k + 1 + 1 + 1, by omega, ?_, ⟨_, rfl⟩, by simp⟩
      simp at hd
      rcases hd with rfl | rfl | rfl | rfl <;> simp [wsh, wsh_str]
    · refine wp_go (pick_at hT hP (by omega) (by simp) (tw_set hi _) (by omega) (by simp)) ?_
      rintro d _ ⟨hd, rfl⟩
      rw [fnQ_rt (by simp) (fun i e => by cases e)]
      refine ⟨k + 1 + 1 + 1, by omega, ?_, ⟨_, rfl⟩, by simp⟩
      simp at hd
      rcases hd with rfl | rfl | rfl | rfl | rfl | rfl <;> simp [wsh, wsh_str]
  | succ left ih =>
    intro n k st hn hk hi
    obtain ⟨n, rfl⟩ : ∃ k, n = k + 1 := ⟨n - 1, by omega⟩
    have hw : wc (left + 1) = 3 + 2 * wc left := rfl
    have := wc_ge left
    rw [w_fn hW]
    simp [k_wish]
    refine wp_go (draw_at hT (by omega) (by omega) hi (by omega)) ?_
    rintro _ _ ⟨j, h0, h1, rfl, rfl⟩
    simp
    split
    · refine wp_go (draw_at hT (by omega) (by omega) (tw_set hi _) (by omega)) ?_
      rintro _ _ ⟨j2, h0, h1, rfl, rfl⟩
      simp
      split
      · refine wp_go (pick_at hT hP (by omega) (by simp) (tw_set hi _) (by omega) (by simp)) ?_
        rintro d _ ⟨hd, rfl⟩
        rw [fnQ_rt (by simp) (fun i e => by cases e)]
        refine ⟨k + 1 + 1 + 1, by omega, ?_, ⟨_, rfl⟩, by simp⟩
        simp at hd
        rcases hd with rfl | rfl | rfl | rfl <;> simp [wsh, wsh_str]
      · refine wp_go (pick_at hT hP (by omega) (by simp) (tw_set hi _) (by omega) (by simp)) ?_
        rintro d _ ⟨hd, rfl⟩
        rw [fnQ_rt (by simp) (fun i e => by cases e)]
        refine ⟨k + 1 + 1 + 1, by omega, ?_, ⟨_, rfl⟩, by simp⟩
        simp at hd
        rcases hd with rfl | rfl | rfl | rfl | rfl | rfl <;> simp [wsh, wsh_str]
    · split
      · refine wp_go (draw_at hT (by omega) (by omega) (tw_set hi _) (by omega)) ?_
        rintro _ _ ⟨j2, h0, h1, rfl, rfl⟩
        simp
        split
        · refine wp_go (pick_at hT hP (by omega) (by simp) (tw_set hi _) (by omega) (by simp)) ?_
          rintro d _ ⟨hd, rfl⟩
          rw [fnQ_rt (by simp) (fun i e => by cases e)]
          refine ⟨k + 1 + 1 + 1, by omega, ?_, ⟨_, rfl⟩, by simp⟩
          simp at hd
          rcases hd with rfl | rfl | rfl | rfl <;> simp [wsh, wsh_str]
        · refine wp_go (pick_at hT hP (by omega) (by simp) (tw_set hi _) (by omega) (by simp)) ?_
          rintro d _ ⟨hd, rfl⟩
          rw [fnQ_rt (by simp) (fun i e => by cases e)]
          refine ⟨k + 1 + 1 + 1, by omega, ?_, ⟨_, rfl⟩, by simp⟩
          simp at hd
          rcases hd with rfl | rfl | rfl | rfl | rfl | rfl <;> simp [wsh, wsh_str]
      · split
        · refine wp_go (ih n _ _ (by omega) (by omega) (tw_set hi _)) ?_
          rintro d _ ⟨k1, hk1, hd, _, rfl⟩
          rw [fnQ_rt (by simp) (fun i e => by cases e)]
          refine ⟨k1, by omega, ?_, ⟨_, rfl⟩, by simp⟩
          simp [wsh, wsh_str]
          exact hd
        · refine wp_go (ih n _ _ (by omega) (by omega) (tw_set hi _)) ?_
          rintro d _ ⟨k1, hk1, hd, _, rfl⟩
          simp
          refine wp_go (pick_at hT hP (by omega) (by simp) (tw_set hi _) (by omega) (by simp)) ?_
          rintro d1 _ ⟨hd1, rfl⟩
          simp
          refine wp_go (ih n _ _ (by omega) (by omega) (tw_set hi _)) ?_
          rintro d2 _ ⟨k2, hk2, hd2, _, rfl⟩
          rw [fnQ_rt (by simp) (fun i e => by cases e)]
          refine ⟨k2, by omega, ?_, ⟨_, rfl⟩, by simp⟩
          simp at hd1
          rcases hd1 with rfl | rfl <;> simp [wsh, wsh_str, hd, hd2]
end
end TB
set_option Elab.async false
set_option linter.all false
set_option maxRecDepth 100000
set_option maxHeartbeats 4000000
/-! TB17: books, and the tries of a book -/
namespace TB
open PySem PySem.Spec L2
def k_p_joined : Def := ⟨"joined", ["one", "other"], ["one", "other", "word"],
  (.cons (.ret (.bin (.add false) (.var 0) (.blt .tuple (.lc false [("word", 2)] (.one 2) (.seq (.var 1)) (.some (.cmp .NotIn (.var 2) (.var 0))) (.var 2)))))
  .nil)⟩

def k_p_tries_in : Def := ⟨"tries_in", ["members", "ahead", "marks", "wants"], ["members", "ahead", "marks", "wants", "found", "one", "path", "mine", "need", "number", "deeds"],
  (.cons (.asg (.one 4) (.lst true .nil))
  (.cons (.for_ (.one 5) (.seq (.var 0))
   (.cons (.asg (.one 6) (.bin (.add false) (.var 1) (.idx (.var 5) (.int 1))))
   (.cons (.asg (.one 7) (.call "joined" 2 (.cons (.var 2) (.cons (.idx (.var 5) (.int 2)) .nil))))
   (.cons (.asg (.one 8) (.call "joined" 2 (.cons (.var 3) (.cons (.idx (.var 5) (.int 3)) .nil))))
   (.cons (.ife (.cmp .Eq (.idx (.var 5) (.int 0)) (.str "group"))
    (.cons (.expr (.bm .extend (.var 4) (.cons (.call "tries_in" 4 (.cons (.idx (.var 5) (.int 4)) (.cons (.bin (.add false) (.var 6) (.str "/")) (.cons (.var 7) (.cons (.var 8) .nil))))) .nil)))
    .nil)
    (.cons (.ife (.cmp .Eq (.idx (.var 5) (.int 0)) (.str "try"))
     (.cons (.expr (.bm .append (.var 4) (.cons (.tup (.cons (.var 6) (.cons (.var 1) (.cons (.var 7) (.cons (.var 8) (.cons (.idx (.var 5) (.int 4)) .nil)))))) .nil)))
     .nil)
     (.cons (.for_ (.one 9) (.seq (.idx (.var 5) (.int 5)))
      (.cons (.asg (.one 10) (.bin (.add false) (.tup (.cons (.tup (.cons (.str "set") (.cons (.idx (.var 5) (.int 4)) (.cons (.var 9) .nil)))) .nil)) (.idx (.var 5) (.int 6))))
      (.cons (.expr (.bm .append (.var 4) (.cons (.tup (.cons (.bin (.add false) (.bin (.add false) (.var 6) (.str "=")) (.blt .str (.var 9))) (.cons (.var 1) (.cons (.var 7) (.cons (.var 8) (.cons (.var 10) .nil)))))) .nil)))
      .nil)))
     .nil))
    .nil))
   .nil)))))
  (.cons (.ret (.var 4))
  .nil)))⟩

def k_p_tries_of : Def := ⟨"tries_of", ["book"], ["book"],
  (.cons (.ret (.call "tries_in" 4 (.cons (.idx (.var 0) (.int 1)) (.cons (.str "") (.cons (.tup .nil) (.cons (.tup .nil) .nil))))))
  .nil)⟩

def k_p_paths : Def := ⟨"paths", ["book"], ["book", "one"],
  (.cons (.ret (.blt .tuple (.lc false [("one", 1)] (.one 1) (.seq (.call "tries_of" 1 (.cons (.var 0) .nil))) .none (.idx (.var 1) (.int 0)))))
  .nil)⟩

/-! ### what books are -/
inductive Deed where
  | set (k : Str) (n : Int) | add (k : Str) (n : Int) | ask (k : Str) (n : Int) | say (w : Str) | fail | leave
inductive Mem where
  | try_ (name : Str) (marks wants : List Str) (deeds : List Deed)
  | many (name : Str) (marks wants : List Str) (key : Str) (nums : List Int) (deeds : List Deed)
  | group (name : Str) (marks wants : List Str) (ms : List Mem)
structure Stage where
  name : Str
  reach : Str
  wants : List Str
  ups : List Deed
  downs : List Deed
structure Book where
  stages : List Stage
  mems : List Mem
/-- a row of a try -/
structure Row where
  path : Str
  group : Str
  marks : List Str
  wants : List Str
  deeds : List Deed
def sD (l : List Str) : D := .tup (l.map .str)
def Deed.d : Deed → D
  | .set k n => .tup [.str "set", .str k, .int n]
  | .add k n => .tup [.str "add", .str k, .int n]
  | .ask k n => .tup [.str "ask", .str k, .int n]
  | .say w => .tup [.str "say", .str w]
  | .fail => .tup [.str "fail"]
  | .leave => .tup [.str "leave"]
def dsD (l : List Deed) : D := .tup (l.map Deed.d)
mutual
def Mem.d : Mem → D
  | .try_ n m w ds => .tup [.str "try", .str n, sD m, sD w, dsD ds]
  | .many n m w k ns ds => .tup [.str "many", .str n, sD m, sD w, .str k, .tup (ns.map .int), dsD ds]
  | .group n m w ms => .tup [.str "group", .str n, sD m, sD w, .tup (memsD ms)]
def memsD : List Mem → List D
  | [] => []
  | m :: ms => m.d :: memsD ms
end
def Stage.d (s : Stage) : D := .tup [.str s.name, .str s.reach, sD s.wants, dsD s.ups, dsD s.downs]
def Book.d (b : Book) : D := .tup [.tup (b.stages.map Stage.d), .tup (memsD b.mems)]
def Row.d (r : Row) : D := .tup [.str r.path, .str r.group, sD r.marks, sD r.wants, dsD r.deeds]
def joinL (a b : List Str) : List Str := a ++ b.filter fun x => decide (x ∉ a)
def numStr (i : Int) : Str := Str.ofString (toString i)
mutual
def Mem.rows (ahead : Str) (marks wants : List Str) : Mem → List Row
  | .try_ n m w ds => [⟨ahead ++ n, ahead, joinL marks m, joinL wants w, ds⟩]
  | .many n m w k ns ds => ns.map fun i => ⟨ahead ++ n ++ "=" ++ numStr i, ahead, joinL marks m, joinL wants w, .set k i :: ds⟩
  | .group n m w ms => rowsIn (ahead ++ n ++ "/") (joinL marks m) (joinL wants w) ms
def rowsIn (ahead : Str) (marks wants : List Str) : List Mem → List Row
  | [] => []
  | m :: ms => m.rows ahead marks wants ++ rowsIn ahead marks wants ms
end
def Book.rows (b : Book) : List Row := rowsIn "" [] [] b.mems
/-- how much there is of a member, for the machine's sake -/
def smallL (l : List Str) : Prop := l.length ≤ 100
def fitI (i : Int) : Prop := -100 ≤ i ∧ i ≤ 100
mutual
def Mem.fit : Nat → Mem → Prop
  | _, .try_ n m w ds => n.length ≤ 20 ∧ m.length ≤ 20 ∧ w.length ≤ 20 ∧ ds.length ≤ 20
  | _, .many n m w k ns ds => n.length ≤ 20 ∧ m.length ≤ 20 ∧ w.length ≤ 20 ∧ ds.length ≤ 20 ∧ ns.length ≤ 20 ∧ ∀ i ∈ ns, fitI i
  | 0, .group _ _ _ _ => False
  | k + 1, .group n m w ms => n.length ≤ 20 ∧ m.length ≤ 20 ∧ w.length ≤ 20 ∧ ms.length ≤ 20 ∧ fitsIn k ms
def fitsIn : Nat → List Mem → Prop
  | _, [] => True
  | k, m :: ms => m.fit k ∧ fitsIn k ms
end
end TB
set_option Elab.async false
set_option linter.all false
set_option maxRecDepth 100000
set_option maxHeartbeats 4000000
/-! TB18: joined, tries_in -/
namespace TB
open PySem PySem.Spec L2
theorem map_toNat_inj : ∀ {a b : List Char}, a.map Char.toNat = b.map Char.toNat → a = b
  | [], [], _ => rfl
  | [], _ :: _, h => by cases h
  | _ :: _, [], h => by cases h
  | x :: a, y :: b, h => by
    simp only [List.map_cons, List.cons.injEq] at h
    rw [map_toNat_inj h.2, Char.toNat_inj.mp h.1]
@[simp] theorem ofS_inj (a b : String) : (Str.ofString a = Str.ofString b) = (a = b) := by
  apply propext
  constructor
  · intro h
    have h := congrArg (fun z => z.cps.toList) h
    simp only [Str.ofString] at h
    rw [cpsOfBytes_string, cpsOfBytes_string] at h
    exact String.toList_inj.mp (map_toNat_inj h)
  · rintro rfl; rfl
theorem pys_str : ∀ l : List Str, D.pys (l.map .str) = some (l.map .str)
  | [] => rfl
  | x :: l => by simp [D.pys, D.py, pys_str l]
theorem pys_int : ∀ l : List Int, D.pys (l.map .int) = some (l.map .int)
  | [] => rfl
  | x :: l => by simp [D.pys, D.py, pys_int l]
theorem depth_strs : ∀ l : List Str, PyData.depthAll (l.map .str) = 0
  | [] => rfl
  | x :: l => by simp [PyData.depthAll, PyData.depth, depth_strs l]
theorem any_strs (x : Str) : ∀ l : List Str, ((l.map PyData.str).any fun z => z.eqv (.str x)) = decide (x ∈ l)
  | [] => rfl
  | y :: l => by
    rw [List.map_cons, List.any_cons, any_strs x l]
    have : (y == x) = decide (x = y) := by rw [Bool.eq_iff_iff, beq_iff_eq, decide_eq_true_eq]; exact eq_comm
    simp [PyData.eqv, List.mem_cons, this]
theorem inL_strs (x : Str) (l : List Str) : inL (.str x) (l.map .str) = some (decide (x ∈ l)) := by
  simp only [inL, D.py, pys_str, PyData.depth, depth_strs, any_strs]
  rfl
@[simp] theorem in_sD {st : Sto} (x : Str) (l : List Str) : inT st (.str x) (sD l) = some (decide (x ∈ l)) := inL_strs x l
@[simp] theorem in_tS {st : Sto} (x : Str) (l : List Str) : inT st (.str x) (.tup (l.map .str)) = some (decide (x ∈ l)) := inL_strs x l
@[simp] theorem in_lS {st : Sto} (x : Str) (l : List Str) : inT st (.str x) (.lst (l.map .str)) = some (decide (x ∈ l)) := inL_strs x l
theorem filter_str (p : Str → Bool) (f : D → Bool) (h : ∀ x, f (.str x) = p x) : ∀ l : List Str, (l.map D.str).filter f = (l.filter p).map .str
  | [] => rfl
  | x :: l => by
    rw [List.map_cons]
    by_cases e : p x = true
    · rw [List.filter_cons_of_pos (by rw [h]; exact e), List.filter_cons_of_pos e, List.map_cons, filter_str p f h l]
    · rw [List.filter_cons_of_neg (by rw [h]; exact e), List.filter_cons_of_neg e, filter_str p f h l]
theorem joinL_len (a b : List Str) : (joinL a b).length ≤ a.length + b.length := by
  unfold joinL
  rw [List.length_append]
  have := List.length_filter_le (fun x => decide (x ∉ a)) b
  omega
section
variable {T : Tab} {gc : Str → Option D} {n : Nat} {st : Sto} {P : D → Sto → Prop} {E : Str → Sto → Prop}
theorem joined_at (hJ : T.get "joined" = some k_p_joined) (hn : 0 < n) (a b : List Str) (hl : a.length + b.length ≤ 1000000) : wp (cfN T gc n "joined" [sD a, sD b]) st P E = P (sD (joinL a b)) st := by
  obtain ⟨n, rfl⟩ : ∃ k, n = k + 1 := ⟨n - 1, by omega⟩
  rw [w_fn hJ]
  simp [k_p_joined, sD]
  rw [lc_pure (fun d => [some (.tup (a.map .str)), some (.tup (b.map .str)), some d]) (fun d => match d with | .str x => decide (x ∉ a) | _ => true) id (by trivial) _ _ (fun d _ => rfl)]
  · have hf := List.length_filter_le (fun x => decide (x ∉ a)) b
    rw [List.map_id, filter_str (fun x => decide (x ∉ a)) _ (fun x => rfl)]
    rw [fnQ_rt rfl (fun i e => by cases e)]
    have hf2 := List.length_filter_le (fun x => !decide (x ∈ a)) b
    simp [joinL]
    exact ⟨fun h => h.2.2, fun h => ⟨by omega, by omega, h⟩⟩
  · intro d hd P
    obtain ⟨x, hx, rfl⟩ := List.mem_map.mp hd
    simp
  · intro d hd _ P
    simp
/-! ### tries_in -/
@[simp] theorem q_add_str {m : Bool} {x y : Str} (h : x.length + y.length ≤ 16777216) : wp (opAdd m (.str x) (.str y)) st P E = P (.str (x ++ y)) st := by
  unfold wp opAdd
  simp [h]
theorem num_all : ∀ n : Fin 201, ((n.val : Int) - 100).natAbs.log2 < 1920 ∧ (numStr ((n.val : Int) - 100)).length ≤ 10 := by decide +kernel
theorem num_fit {i : Int} (h : fitI i) : i.natAbs.log2 < 1920 ∧ (numStr i).length ≤ 10 := by
  have h1 := h.1
  have h2 := h.2
  have := num_all ⟨(i + 100).toNat, by omega⟩
  have e : (((i + 100).toNat : Nat) : Int) - 100 = i := by omega
  simp only [e] at this
  exact this
theorem q_str_int {i : Int} (h : fitI i) : wp (gStr [.int i]) st P E = P (.str (numStr i)) st := by
  obtain ⟨h1, h2⟩ := num_fit h
  have h3 : (Str.ofString (toString i)).length ≤ sizeLine := Nat.le_trans h2 (by decide)
  unfold wp gStr
  dsimp only
  rw [if_pos ⟨h1, h3⟩]
  rfl
theorem q_ext {i : Nat} {l m : List D} (h : st[i]? = some (.lst l)) (hl : l.length + m.length ≤ 16777216) : wp (gExtend (.ref i) [.lst m]) st P E = P .non (st.set i (.lst (l ++ m))) := by
  unfold wp gExtend
  simp [h, hl]
def rowsD (l : List Row) : List D := l.map Row.d
mutual
theorem Mem.rows_len : ∀ (k : Nat) (m : Mem) (a : Str) (ms ws : List Str), m.fit k → (m.rows a ms ws).length ≤ 20 ^ (k + 1)
  | k, .try_ n m w ds, a, ms, ws, h => by simp [Mem.rows]; exact Nat.one_le_pow _ _ (by omega)
  | k, .many n m w q ns ds, a, ms, ws, h => by
    simp [Mem.rows]
    simp only [Mem.fit] at h
    have : 20 ≤ 20 ^ (k + 1) := by rw [Nat.pow_succ]; exact Nat.le_mul_of_pos_left _ (Nat.pow_pos (by omega))
    omega
  | 0, .group n m w mm, a, ms, ws, h => by simp [Mem.fit] at h
  | k + 1, .group n m w mm, a, ms, ws, h => by
    simp only [Mem.fit] at h
    simp only [Mem.rows]
    have := rowsIn_len k mm (a ++ n ++ "/") (joinL ms m) (joinL ws w) h.2.2.2.2
    have h2 : mm.length * 20 ^ (k + 1) ≤ 20 * 20 ^ (k + 1) := Nat.mul_le_mul_right _ h.2.2.2.1
    rw [Nat.pow_succ 20 (k + 1), Nat.mul_comm (20 ^ (k + 1)) 20]
    omega
theorem rowsIn_len : ∀ (k : Nat) (l : List Mem) (a : Str) (ms ws : List Str), fitsIn k l → (rowsIn a ms ws l).length ≤ l.length * 20 ^ (k + 1)
  | k, [], a, ms, ws, h => by simp [rowsIn]
  | k, m :: l, a, ms, ws, h => by
    simp only [fitsIn] at h
    have h1 := Mem.rows_len k m a ms ws h.1
    have h2 := rowsIn_len k l a ms ws h.2
    simp only [rowsIn, List.length_append, List.length_cons, Nat.add_mul, Nat.one_mul]
    omega
end

theorem wp_det {τ : Type} {m : M τ} {st s1 : Sto} {v : τ} (h : wp m st (fun d st1 => d = v ∧ st1 = s1) noX) (P : τ → Sto → Prop) (E : Str → Sto → Prop) : wp m st P E = P v s1 := by
  obtain ⟨d, st1, e, rfl, rfl⟩ := wp_ok h
  unfold wp
  rw [e]
theorem memsD_app : ∀ a b : List Mem, memsD (a ++ b) = memsD a ++ memsD b
  | [], b => rfl
  | m :: a, b => by simp [memsD, memsD_app a b]
theorem rowsIn_app (x : Str) (mk ws : List Str) : ∀ a b : List Mem, rowsIn x mk ws (a ++ b) = rowsIn x mk ws a ++ rowsIn x mk ws b
  | [], b => rfl
  | m :: a, b => by simp [rowsIn, rowsIn_app x mk ws a b]
theorem fitsIn_app {k : Nat} : ∀ {a b : List Mem}, fitsIn k (a ++ b) → fitsIn k a ∧ fitsIn k b
  | [], b, h => ⟨trivial, h⟩
  | m :: a, b, h => by
    simp only [List.cons_append, fitsIn] at h ⊢
    obtain ⟨h1, h2⟩ := fitsIn_app h.2
    exact ⟨⟨h.1, h1⟩, h2⟩
theorem at4 {α : Type} (a b c d e : α) (l : List α) : atI (a :: b :: c :: d :: e :: l) 4 = some e := by
  have : (4 : Int) < (l.length : Int) + 1 + 1 + 1 + 1 + 1 := by omega
  simp [atI, ixN, this]
theorem at3 {α : Type} (a b c d : α) (l : List α) : atI (a :: b :: c :: d :: l) 3 = some d := by
  have : (3 : Int) < (l.length : Int) + 1 + 1 + 1 + 1 := by omega
  simp [atI, ixN, this]
theorem at5 {α : Type} (a b c d e f : α) (l : List α) : atI (a :: b :: c :: d :: e :: f :: l) 5 = some f := by
  have : (5 : Int) < (l.length : Int) + 1 + 1 + 1 + 1 + 1 + 1 := by omega
  simp [atI, ixN, this]
theorem at6 {α : Type} (a b c d e f g : α) (l : List α) : atI (a :: b :: c :: d :: e :: f :: g :: l) 6 = some g := by
  have : (6 : Int) < (l.length : Int) + 1 + 1 + 1 + 1 + 1 + 1 + 1 := by omega
  simp [atI, ixN, this]
@[simp] theorem end_get (st : Sto) (o : MO) : (st ++ [o])[st.length]? = some o := by simp
@[simp] theorem bt_end (st : Sto) (l : List D) : btOk (st ++ [.lst l]) (.ref st.length) .list = true := bt_ref (l := l) (by simp)
theorem app_end {st : Sto} {l : List D} {x : D} (hl : l.length < 16777216) : wp (gAppend (.ref st.length) [x]) (st ++ [.lst l]) P E = P .non (st ++ [.lst (l ++ [x])]) := by
  rw [q_app (by simp) hl, set_end]
theorem ext_end {st : Sto} {l m : List D} (hl : l.length + m.length ≤ 16777216) : wp (gExtend (.ref st.length) [.lst m]) (st ++ [.lst l]) P E = P .non (st ++ [.lst (l ++ m)]) := by
  rw [q_ext (by simp) hl, set_end]
theorem rlt_str (n : Nat) : ∀ l : List Str, D.rlts n (l.map .str) = true
  | [] => rfl
  | x :: l => by simp [D.rlts, D.rlt, rlt_str n l]
theorem rlt_sD (n : Nat) (l : List Str) : (sD l).rlt n = true := rlt_str n l
theorem rlt_deed (n : Nat) (d : Deed) : d.d.rlt n = true := by cases d <;> rfl
theorem rlt_deeds (n : Nat) : ∀ l : List Deed, D.rlts n (l.map Deed.d) = true
  | [] => rfl
  | x :: l => by simp [D.rlts, rlt_deed, rlt_deeds n l]
theorem rlt_dsD (n : Nat) (l : List Deed) : (dsD l).rlt n = true := rlt_deeds n l
theorem rlt_row (n : Nat) (r : Row) : r.d.rlt n = true := by
  simp [Row.d, D.rlt, D.rlts, rlt_sD, rlt_dsD]
theorem rlt_rows (n : Nat) : ∀ l : List Row, D.rlts n (rowsD l) = true
  | [] => rfl
  | x :: l => by
    have := rlt_rows n l
    simp [rowsD] at this
    simp [rowsD, D.rlts, rlt_row, this]
/-- tries_in: the rows of the members -/
theorem tries_in_at (hJ : T.get "joined" = some k_p_joined) (hT : T.get "tries_in" = some k_p_tries_in) (k : Nat) : ∀ (n : Nat) (st : Sto) (ms : List Mem) (a : Str) (mk ws : List Str), fitsIn k ms → ms.length ≤ 20 → k + 2 < n → k ≤ 3 → a.length + 30 * (k + 1) ≤ 1000 → mk.length + 30 * (k + 1) ≤ 1000 → ws.length + 30 * (k + 1) ≤ 1000 →
    wp (cfN T gc n "tries_in" [.tup (memsD ms), .str a, sD mk, sD ws]) st (fun d st1 => d = .lst (rowsD (rowsIn a mk ws ms)) ∧ st1 = st) noX := by
  induction k using Nat.strongRecOn with
  | ind k ih =>
    intro n st ms a mk ws hf hl hn hk ha hm hw
    obtain ⟨n, rfl⟩ : ∃ k, n = k + 1 := ⟨n - 1, by omega⟩
    rw [w_fn hT]
    simp [k_p_tries_in]
    have bnd : ∀ (pre post : List Mem) (m : Mem), ms = pre ++ m :: post → (rowsD (rowsIn a mk ws pre)).length ≤ 3200000 := by
      intro pre post m e
      have h1 := rowsIn_len k pre a mk ws (by rw [e] at hf; exact (fitsIn_app hf).1)
      have h2 : pre.length ≤ 20 := by rw [e, List.length_append] at hl; omega
      have h3 : pre.length * 20 ^ (k + 1) ≤ 20 * 20 ^ 4 := Nat.mul_le_mul h2 (Nat.pow_le_pow_right (by omega) (by omega))
      rw [rowsD, List.length_map]
      have : (20 : Nat) * 20 ^ 4 = 3200000 := by decide
      omega
    refine loop_inv (fun ds ρ st2 => ∃ pre post x5 x6 x7 x8 x9 x10, ms = pre ++ post ∧ ds = memsD post ∧ st2 = st ++ [.lst (rowsD (rowsIn a mk ws pre))] ∧ ρ = [some (.tup (memsD ms)), some (.str a), some (sD mk), some (sD ws), some (.ref st.length), x5, x6, x7, x8, x9, x10]) ?_ ?_ ?_ _ _ _ ?_
    · intro ds ρ st2 _
      trivial
    · rintro d ds _ _ ⟨pre, post, x5, x6, x7, x8, x9, x10, e1, e2, rfl, rfl⟩
      cases post with
      | nil => cases e2
      | cons m post =>
        simp only [memsD, List.cons.injEq] at e2
        obtain ⟨rfl, rfl⟩ := e2
        refine ⟨_, rfl, ?_⟩
        rw [e1] at hf
        obtain ⟨f1, f2⟩ := fitsIn_app hf
        simp only [fitsIn] at f2
        obtain ⟨f2, f3⟩ := f2
        have hlen := bnd pre post _ e1
        cases m with
        | try_ nm mm w ds =>
          simp only [Mem.fit] at f2
          simp [Mem.d, at3, at4, q_add_str (show a.length + nm.length ≤ 16777216 by omega), joined_at hJ (show 0 < n by omega) mk mm (by omega), joined_at hJ (show 0 < n by omega) ws w (by omega), app_end (show (rowsD (rowsIn a mk ws pre)).length < 16777216 by omega)]
          refine ⟨pre ++ [.try_ nm mm w ds], post, by simp [e1], rfl, ?_⟩
          simp [rowsIn_app, rowsIn, Mem.rows, rowsD, Row.d]
        | many nm mm w ky ns ds =>
          simp only [Mem.fit] at f2
          obtain ⟨g1, g2, g3, g4, g5, g6⟩ := f2
          simp [Mem.d, at3, at4, at5, q_add_str (show a.length + nm.length ≤ 16777216 by omega), joined_at hJ (show 0 < n by omega) mk mm (by omega), joined_at hJ (show 0 < n by omega) ws w (by omega)]
          refine loop_inv (fun ds2 ρ st2 => ∃ pre2 post2 y9 y10, ns = pre2 ++ post2 ∧ ds2 = post2.map D.int ∧ st2 = st ++ [.lst (rowsD (rowsIn a mk ws pre ++ pre2.map fun i => ⟨a ++ nm ++ "=" ++ numStr i, a, joinL mk mm, joinL ws w, .set ky i :: ds⟩))] ∧
            ρ = [some (.tup (memsD ms)), some (.str a), some (sD mk), some (sD ws), some (.ref st.length), some (Mem.many nm mm w ky ns ds).d, some (.str (a ++ nm)), some (sD (joinL mk mm)), some (sD (joinL ws w)), y9, y10]) ?_ ?_ ?_ _ _ _ ?_
          · intro ds ρ st2 _
            trivial
          · rintro d2 ds2 _ _ ⟨pre2, post2, y9, y10, q1, q2, rfl, rfl⟩
            cases post2 with
            | nil => cases q2
            | cons i post2 =>
              simp only [List.map_cons, List.cons.injEq] at q2
              obtain ⟨rfl, rfl⟩ := q2
              refine ⟨_, rfl, ?_⟩
              have hi : fitI i := g6 i (by rw [q1]; simp)
              have hi2 := (num_fit hi).2
              have hl2 : (rowsD (rowsIn a mk ws pre ++ pre2.map fun i => (⟨a ++ nm ++ "=" ++ numStr i, a, joinL mk mm, joinL ws w, .set ky i :: ds⟩ : Row))).length < 16777216 := by
                have : pre2.length ≤ 20 := by rw [q1, List.length_append] at g5; omega
                simp [rowsD] at hlen ⊢
                omega
              have s1 : ("=" : Str).length = 1 := by decide +kernel
              have l1 : (a ++ nm).length = a.length + nm.length := len_app _ _
              have l2 : (a ++ nm ++ "=").length = a.length + nm.length + 1 := by rw [len_app, l1, s1]
              have hdl : (ds.length + 1 ≤ 16777216) = True := eq_true (by omega)
              have hdl2 : (ds.length ≤ 16777215) = True := eq_true (by omega)
              simp [Mem.d, at4, at6, q_add_str (show (a ++ nm).length + ("=" : Str).length ≤ 16777216 by omega), q_add_str (show (a ++ nm ++ "=").length + (numStr i).length ≤ 16777216 by omega), q_str_int hi, app_end hl2, dsD, hdl, hdl2]
              refine ⟨pre2 ++ [i], post2, by simp [q1], rfl, ?_⟩
              simp [rowsD, Row.d, dsD, Deed.d]
          · rintro _ _ ⟨pre2, post2, y9, y10, q1, q2, rfl, rfl⟩
            cases post2 with
            | cons i post2 => cases q2
            | nil =>
              rw [List.append_nil] at q1
              subst q1
              simp
              refine ⟨pre ++ [.many nm mm w ky ns ds], post, by simp [e1], rfl, ?_⟩
              simp [rowsIn_app, rowsIn, Mem.rows, rowsD]
          · exact ⟨[], ns, _, _, rfl, rfl, by simp, rfl⟩
        | group nm mm w mem =>
          cases k with
          | zero => simp [Mem.fit] at f2
          | succ k =>
            simp only [Mem.fit] at f2
            obtain ⟨g1, g2, g3, g4, g5⟩ := f2
            have j1 := joinL_len mk mm
            have j2 := joinL_len ws w
            have s1 : ("/" : Str).length = 1 := by decide +kernel
            have l1 : (a ++ nm).length = a.length + nm.length := len_app _ _
            have l2 : (a ++ nm ++ "/").length = a.length + nm.length + 1 := by rw [len_app, l1, s1]
            simp [Mem.d, at3, at4, q_add_str (show a.length + nm.length ≤ 16777216 by omega), q_add_str (show (a ++ nm).length + ("/" : Str).length ≤ 16777216 by omega), joined_at hJ (show 0 < n by omega) mk mm (by omega), joined_at hJ (show 0 < n by omega) ws w (by omega)]
            rw [wp_det (ih k (by omega) n _ mem (a ++ nm ++ "/") (joinL mk mm) (joinL ws w) g5 g4 (by omega) (by omega) (by omega) (by omega) (by omega))]
            have hl2 : (rowsD (rowsIn (a ++ nm ++ "/") (joinL mk mm) (joinL ws w) mem)).length ≤ 3200000 := by
              have h1 := rowsIn_len k mem (a ++ nm ++ "/") (joinL mk mm) (joinL ws w) g5
              have h3 : mem.length * 20 ^ (k + 1) ≤ 20 * 20 ^ 4 := Nat.mul_le_mul g4 (Nat.pow_le_pow_right (by omega) (by omega))
              rw [rowsD, List.length_map]
              have : (20 : Nat) * 20 ^ 4 = 3200000 := by decide
              omega
            rw [ext_end (by omega)]
            refine ⟨pre ++ [.group nm mm w mem], post, by simp [e1], rfl, ?_⟩
            simp [rowsIn_app, rowsIn, Mem.rows, rowsD]
    · rintro _ _ ⟨pre, post, x5, x6, x7, x8, x9, x10, e1, e2, rfl, rfl⟩
      cases post with
      | cons m post => cases e2
      | nil =>
        rw [List.append_nil] at e1
        subst e1
        simp
        rw [fnQ_list (l := rowsD (rowsIn a mk ws ms)) (Nat.le_refl _) (by simp) (rlt_rows _ _) (.inl (by simp))]
        exact ⟨rfl, by simp⟩
    · exact ⟨[], ms, _, _, _, _, _, _, rfl, rfl, rfl, rfl⟩
end
end TB
set_option Elab.async false
set_option linter.all false
set_option maxRecDepth 100000
set_option maxHeartbeats 4000000
/-! TB19: how the laws make books -/
namespace TB
open PySem PySem.Spec L2
def k_mixed : Def := ⟨"_law_mixed", ["script", "town", "row"], ["script", "town", "row", "left", "got"],
  (.cons (.par 3 4 (.blt (.list true) (.var 2)) (.lst true .nil))
  (.cons (.whl 10000 (.var 3)
   (.cons (.expr (.bm .append (.var 4) (.cons (.bm .pop (.var 3) (.cons (.call "_law_draw" 3 (.cons (.var 0) (.cons (.var 1) (.cons (.blt .len (.var 3)) .nil)))) .nil)) .nil)))
   .nil))
  (.cons (.ret (.var 4))
  .nil)))⟩

def k_some : Def := ⟨"_law_some", ["script", "town", "row", "top"], ["script", "town", "row", "top", "got", "k", "one"],
  (.cons (.asg (.one 4) (.tup .nil))
  (.cons (.for_ (.one 5) (.rng1 (.bin (.mul false) (.call "_law_draw" 3 (.cons (.var 0) (.cons (.var 1) (.cons (.bin (.add false) (.var 3) (.int 1)) .nil)))) (.blt .int (.cmp .Gt (.blt .len (.var 2)) (.int 0)))))
   (.cons (.asg (.one 6) (.call "_law_pick" 3 (.cons (.var 0) (.cons (.var 1) (.cons (.var 2) .nil)))))
   (.cons (.asg (.one 4) (.bin (.add false) (.var 4) (.bin (.mul false) (.tup (.cons (.var 6) .nil)) (.blt .int (.cmp .NotIn (.var 6) (.var 4))))))
   .nil)))
  (.cons (.ret (.var 4))
  .nil)))⟩

def k_deeds : Def := ⟨"_law_deeds", ["script", "town", "top"], ["script", "town", "top", "got", "k", "kinds", "key", "number"],
  (.cons (.asg (.one 3) (.tup .nil))
  (.cons (.for_ (.one 4) (.rng1 (.call "_law_draw" 3 (.cons (.var 0) (.cons (.var 1) (.cons (.bin (.add false) (.var 2) (.int 1)) .nil)))))
   (.cons (.par 6 7 (.call "_law_pick" 3 (.cons (.var 0) (.cons (.var 1) (.cons (.str "kmn") .nil)))) (.bin .sub (.call "_law_draw" 3 (.cons (.var 0) (.cons (.var 1) (.cons (.int 4) .nil)))) (.int 1)))
   (.cons (.asg (.one 5) (.lst false (.cons (.tup (.cons (.str "set") (.cons (.var 6) (.cons (.var 7) .nil)))) (.cons (.tup (.cons (.str "add") (.cons (.var 6) (.cons (.var 7) .nil)))) (.cons (.tup (.cons (.str "add") (.cons (.var 6) (.cons (.var 7) .nil)))) (.cons (.tup (.cons (.str "ask") (.cons (.var 6) (.cons (.var 7) .nil)))) .nil))))))
   (.cons (.asg (.one 5) (.bin (.add false) (.var 5) (.lst false (.cons (.tup (.cons (.str "say") (.cons (.call "_law_pick" 3 (.cons (.var 0) (.cons (.var 1) (.cons (.lst false (.cons (.str "a") (.cons (.str "bc") (.cons (.str "d") .nil)))) .nil)))) .nil))) (.cons (.tup (.cons (.str "fail") .nil)) (.cons (.tup (.cons (.str "leave") .nil)) .nil))))))
   (.cons (.asg (.one 3) (.bin (.add false) (.var 3) (.tup (.cons (.idx (.var 5) (.call "_law_pick" 3 (.cons (.var 0) (.cons (.var 1) (.cons (.lst false (.cons (.int 0) (.cons (.int 1) (.cons (.int 2) (.cons (.int 3) (.cons (.int 3) (.cons (.int 4) (.cons (.int 4) (.cons (.int 4) (.cons (.int 0) (.cons (.int 1) (.cons (.int 5) (.cons (.int 6) .nil))))))))))))) .nil))))) .nil))))
   .nil)))))
  (.cons (.ret (.var 3))
  .nil)))⟩

def k_stages : Def := ⟨"_law_stages", ["script", "town"], ["script", "town", "got", "far", "name", "reach", "row", "wants", "ups", "one"],
  (.cons (.asg (.one 2) (.tup .nil))
  (.cons (.asg (.one 3) (.dsp [.inr "each", .inr "group", .inr "all"] (.cons (.int 0) (.cons (.int 1) (.cons (.int 2) .nil)))))
  (.cons (.for_ (.one 4) (.seq (.slc false (.call "_law_mixed" 3 (.cons (.var 0) (.cons (.var 1) (.cons (.tup (.cons (.str "p") (.cons (.str "q") (.cons (.str "r") (.cons (.str "s") (.cons (.str "tu") (.cons (.str "v") .nil))))))) .nil)))) .none (.some (.call "_law_draw" 3 (.cons (.var 0) (.cons (.var 1) (.cons (.int 7) .nil)))))))
   (.cons (.asg (.one 5) (.call "_law_pick" 3 (.cons (.var 0) (.cons (.var 1) (.cons (.lst false (.cons (.str "each") (.cons (.str "group") (.cons (.str "all") .nil)))) .nil)))))
   (.cons (.asg (.one 6) (.lc false [("one", 9)] (.one 9) (.seq (.var 2)) (.some (.cmp .GtE (.idx (.var 3) (.idx (.var 9) (.int 1))) (.idx (.var 3) (.var 5)))) (.idx (.var 9) (.int 0))))
   (.cons (.asg (.one 7) (.call "_law_some" 4 (.cons (.var 0) (.cons (.var 1) (.cons (.var 6) (.cons (.int 2) .nil))))))
   (.cons (.asg (.one 8) (.call "_law_deeds" 3 (.cons (.var 0) (.cons (.var 1) (.cons (.int 2) .nil)))))
   (.cons (.asg (.one 2) (.bin (.add false) (.var 2) (.tup (.cons (.tup (.cons (.var 4) (.cons (.var 5) (.cons (.var 7) (.cons (.var 8) (.cons (.call "_law_deeds" 3 (.cons (.var 0) (.cons (.var 1) (.cons (.int 2) .nil)))) .nil)))))) .nil))))
   .nil))))))
  (.cons (.ret (.var 2))
  .nil))))⟩

def k_member : Def := ⟨"_law_member", ["script", "town", "name", "names", "left"], ["script", "town", "name", "names", "left", "kind", "marks", "wants", "numbers"],
  (.cons (.par 6 7 (.call "_law_some" 4 (.cons (.var 0) (.cons (.var 1) (.cons (.lst false (.cons (.str "x") (.cons (.str "y") (.cons (.str "slow") .nil)))) (.cons (.int 2) .nil))))) (.call "_law_some" 4 (.cons (.var 0) (.cons (.var 1) (.cons (.var 3) (.cons (.int 2) .nil))))))
  (.cons (.asg (.one 5) (.call "_law_draw" 3 (.cons (.var 0) (.cons (.var 1) (.cons (.int 6) .nil)))))
  (.cons (.ife (.band (.cons (.cmp .Lt (.var 5) (.int 2)) (.cons (.cmp .Gt (.var 4) (.int 0)) .nil)))
   (.cons (.ret (.tup (.cons (.str "group") (.cons (.var 2) (.cons (.var 6) (.cons (.var 7) (.cons (.call "_law_members" 4 (.cons (.var 0) (.cons (.var 1) (.cons (.var 3) (.cons (.bin .sub (.var 4) (.int 1)) .nil))))) .nil)))))))
   .nil)
   .nil)
  (.cons (.ife (.cmp .Eq (.var 5) (.int 2))
   (.cons (.asg (.one 8) (.bor (.cons (.call "_law_some" 4 (.cons (.var 0) (.cons (.var 1) (.cons (.lst false (.cons (.int 0) (.cons (.int 1) (.cons (.int 2) (.cons (.neg (.int 3)) .nil))))) (.cons (.int 3) .nil))))) (.cons (.tup (.cons (.int 5) .nil)) .nil))))
   (.cons (.ret (.tup (.cons (.str "many") (.cons (.var 2) (.cons (.var 6) (.cons (.var 7) (.cons (.call "_law_pick" 3 (.cons (.var 0) (.cons (.var 1) (.cons (.str "km") .nil)))) (.cons (.var 8) (.cons (.call "_law_deeds" 3 (.cons (.var 0) (.cons (.var 1) (.cons (.int 2) .nil)))) .nil)))))))))
   .nil))
   .nil)
  (.cons (.ret (.tup (.cons (.str "try") (.cons (.var 2) (.cons (.var 6) (.cons (.var 7) (.cons (.call "_law_deeds" 3 (.cons (.var 0) (.cons (.var 1) (.cons (.int 3) .nil)))) .nil)))))))
  .nil)))))⟩

def k_members : Def := ⟨"_law_members", ["script", "town", "names", "left"], ["script", "town", "names", "left", "got", "name"],
  (.cons (.asg (.one 4) (.tup .nil))
  (.cons (.for_ (.one 5) (.seq (.slc false (.call "_law_mixed" 3 (.cons (.var 0) (.cons (.var 1) (.cons (.tup (.cons (.str "a") (.cons (.str "b") (.cons (.str "c") (.cons (.str "de") .nil))))) .nil)))) .none (.some (.call "_law_draw" 3 (.cons (.var 0) (.cons (.var 1) (.cons (.int 5) .nil)))))))
   (.cons (.asg (.one 4) (.bin (.add false) (.var 4) (.tup (.cons (.call "_law_member" 5 (.cons (.var 0) (.cons (.var 1) (.cons (.var 5) (.cons (.var 2) (.cons (.var 3) .nil)))))) .nil))))
   .nil))
  (.cons (.ret (.var 4))
  .nil)))⟩

def k_book : Def := ⟨"_law_book", ["script", "town"], ["script", "town", "stages", "names", "members", "one"],
  (.cons (.asg (.one 2) (.call "_law_stages" 2 (.cons (.var 0) (.cons (.var 1) .nil))))
  (.cons (.asg (.one 3) (.lc false [("one", 5)] (.one 5) (.seq (.var 2)) .none (.idx (.var 5) (.int 0))))
  (.cons (.asg (.one 4) (.call "_law_members" 4 (.cons (.var 0) (.cons (.var 1) (.cons (.var 3) (.cons (.int 2) .nil))))))
  (.cons (.ret (.tup (.cons (.var 2) (.cons (.bin (.add false) (.var 4) (.tup (.cons (.call "_law_member" 5 (.cons (.var 0) (.cons (.var 1) (.cons (.str "z") (.cons (.var 3) (.cons (.int 1) .nil)))))) .nil))) .nil))))
  .nil))))⟩

/-- a while with a number that falls -/
theorem loopW_inv {c : Lo → M Bool} {body : MS} {Q : Out → Sto → Prop} (I : Nat → Lo → Sto → Prop)
    (step : ∀ j ρ st, I j ρ st → wp (c ρ) st (fun b st1 => if b then ∃ j', j = j' + 1 ∧ wpS body ρ st1 (fun o st2 => match o with
      | .nx ρ2 => I j' ρ2 st2
      | .ct ρ2 => I j' ρ2 st2
      | .bk ρ2 => Q (.nx ρ2) st2
      | o => Q o st2) else Q (.nx ρ) st1) (fun c st1 => Q (.ex c ρ) st1)) :
    ∀ (f j : Nat) (ρ : Lo) (st : Sto), j < f → I j ρ st → wpS (loopW c body f) ρ st Q
  | 0, _, _, _, h, _ => by omega
  | f + 1, j, ρ, st, h, hi => by
    rw [loopW_stop]
    refine wp_mono (step j ρ st hi) (fun b st1 hb => ?_) (fun _ _ h => h)
    cases b with
    | false => exact hb
    | true =>
      rw [if_pos rfl] at hb ⊢
      obtain ⟨j', rfl, hb⟩ := hb
      refine wpS_mono hb fun o st2 ho => ?_
      cases o with
      | nx ρ2 => exact loopW_inv I step f j' ρ2 st2 (by omega) ho
      | ct ρ2 => exact loopW_inv I step f j' ρ2 st2 (by omega) ho
      | bk ρ2 => exact ho
      | rt d => exact ho
      | ex c ρ2 => exact ho
section
variable {T : Tab} {gc : Str → Option D} {n : Nat} {st : Sto} {P : D → Sto → Prop} {E : Str → Sto → Prop}
theorem tr_ref {i : Nat} {l : List D} (h : st[i]? = some (.lst l)) : truth st (.ref i) = some (!l.isEmpty) := by simp [truth, h]
theorem q_pop {i : Nat} {l : List D} {j : Int} {x : D} (h : st[i]? = some (.lst l)) (h0 : 0 ≤ j) (hx : l[j.toNat]? = some x) : wp (gPop (.ref i) [.int j]) st P E = P x (st.set i (.lst (l.eraseIdx j.toNat))) := by
  unfold wp gPop
  simp [h, h0, hx]
theorem set_same {i : Nat} {o : MO} : ∀ {st : Sto}, st[i]? = some o → st.set i o = st := by
  induction i with
  | zero => intro st h; cases st with
    | nil => rfl
    | cons a st => simp at h; subst h; rfl
  | succ i ih => intro st h; cases st with
    | nil => rfl
    | cons a st => simp at h; simp [ih h]
theorem rlts_mem {m : Nat} : ∀ {l : List D}, D.rlts m l = true → ∀ x ∈ l, x.rlt m = true
  | [], _, _, h => by cases h
  | y :: l, h, x, hx => by
    simp only [D.rlts, Bool.and_eq_true] at h
    rcases List.mem_cons.mp hx with rfl | hx
    · exact h.1
    · exact rlts_mem h.2 x hx
theorem rlts_of {m : Nat} : ∀ {l : List D}, (∀ x ∈ l, x.rlt m = true) → D.rlts m l = true
  | [], _ => rfl
  | y :: l, h => by
    simp only [D.rlts, Bool.and_eq_true]
    exact ⟨h y List.mem_cons_self, rlts_of fun x hx => h x (List.mem_cons_of_mem _ hx)⟩
theorem zeros_rlt (m k : Nat) : (MO.lst (zeros k)).rlt m = true := rlts_of fun x hx => by rw [List.eq_of_mem_replicate hx]; rfl
theorem wf_set {st : Sto} {i k : Nat} (h : Wf st) : ∀ o ∈ st.set i (.lst (zeros k)), o.rlt st.length = true := fun o ho => by
  rcases List.mem_or_eq_of_mem_set ho with z | rfl
  · exact h o z
  · exact zeros_rlt _ _
theorem Wf.tw {st : Sto} {i k : Nat} (h : Wf st) : Wf (st.set i (.lst (zeros k))) := fun o ho => by rw [List.length_set]; exact wf_set h o ho
theorem erase_perm : ∀ {l : List D} {i : Nat} (h : i < l.length), (l[i] :: l.eraseIdx i).Perm l
  | [], _, h => by simp at h
  | x :: l, 0, _ => by simp
  | x :: l, i + 1, h => by
    have h' : i < l.length := by simpa using h
    have := erase_perm h'
    simp only [List.getElem_cons_succ, List.eraseIdx_cons_succ]
    exact (List.Perm.swap _ _ _).trans (this.cons x)
theorem set2 {i : Nat} {st r : Sto} {a b : MO} (h : i < st.length) : (st.set i a ++ r).set i b = st.set i b ++ r := by
  rw [List.set_append_left _ _ (by simpa using h), List.set_set]
theorem mixed_at (hD : T.get "_law_draw" = some k_draw) (hM : T.get "_law_mixed" = some k_mixed) (hn : 1 < n) {ns : List Int} {i k : Nat} {l : List D} {row : D} (hrow : row = .tup l ∨ row = .lst l) (hr : ∀ m, D.rlts m l = true) (hi : st[i]? = some (.lst (zeros k))) (hw : Wf st) (hl : l.length ≤ 1000) (hk : k + l.length < 1000000) :
    wp (cfN T gc n "_law_mixed" [.scr ns, .ref i, row]) st (fun d st1 => ∃ l', d = .lst l' ∧ l'.Perm l ∧ st1 = st.set i (.lst (zeros (k + l.length)))) noX := by
  obtain ⟨n, rfl⟩ : ∃ k, n = k + 1 := ⟨n - 1, by omega⟩
  have hlt := tw_lt hi
  have hl2 : (l.length ≤ 16777216) = True := eq_true (by omega)
  rw [w_fn hM]
  have main : ∀ Q, (∀ got, got.Perm l → Q (.nx [some (.scr ns), some (.ref i), some row, some (.ref st.length), some (.ref (st.length + 1))]) (st.set i (.lst (zeros (k + l.length))) ++ [.lst [], .lst got])) →
      wpS (loopW (tst (cfN T gc n) gc (.var 3)) (exSs (cfN T gc n) gc (.cons (.expr (.bm .append (.var 4) (.cons (.bm .pop (.var 3) (.cons (.call "_law_draw" 3 (.cons (.var 0) (.cons (.var 1) (.cons (.blt .len (.var 3)) .nil)))) .nil)) .nil))) .nil)) 10000) [some (.scr ns), some (.ref i), some row, some (.ref st.length), some (.ref (st.length + 1))] (st ++ [.lst l, .lst []]) Q := by
    intro Q hQ
    refine loopW_inv (fun j ρ st2 => ∃ left got, j = left.length ∧ (left ++ got).Perm l ∧ st2 = st.set i (.lst (zeros (k + got.length))) ++ [.lst left, .lst got] ∧ ρ = [some (.scr ns), some (.ref i), some row, some (.ref st.length), some (.ref (st.length + 1))]) ?_ _ l.length _ _ (by omega) ?_
    · rintro j _ _ ⟨left, got, rfl, hp, rfl, rfl⟩
      have hlen : left.length + got.length = l.length := by rw [← hp.length_eq, List.length_append]
      have a1 : (st.set i (.lst (zeros (k + got.length))) ++ [.lst left, .lst got])[st.length]? = some (.lst left) := by simp
      simp [tr_ref a1]
      cases left with
      | nil =>
        simp at hp hlen ⊢
        rw [hlen]
        exact hQ got hp
      | cons y left =>
        simp at hlen
        have a2 : ∀ z, (st.set i (.lst (zeros z)) ++ [.lst (y :: left), .lst got])[st.length]? = some (.lst (y :: left)) := fun z => by simp
        have a3 : (st.set i (.lst (zeros (k + got.length))) ++ [.lst (y :: left), .lst got])[st.length + 1]? = some (.lst got) := by
          rw [List.getElem?_append_right (by simp)]; simp
        have a4 : (st.set i (.lst (zeros (k + got.length))) ++ [.lst (y :: left), .lst got])[i]? = some (.lst (zeros (k + got.length))) := by
          rw [List.getElem?_append_left (by simpa using hlt)]; exact List.getElem?_set_self hlt
        simp [bt_ref a3, bt_ref a1, q_len_ref a1]
        refine wp_go (draw_at hD (by omega) (by omega) a4 (by omega)) ?_
        rintro _ _ ⟨j, h0, h1, rfl, rfl⟩
        rw [set2 hlt]
        have hj : j.toNat < (y :: left).length := by simp; omega
        have hx : (y :: left)[j.toNat]? = some (y :: left)[j.toNat] := List.getElem?_eq_getElem hj
        simp [q_pop (a2 _) h0 hx]
        have pm := erase_perm hj
        have le : ((y :: left).eraseIdx j.toNat).length = left.length := by rw [List.length_eraseIdx_of_lt hj]; simp
        generalize (y :: left)[j.toNat] = x at pm
        generalize (y :: left).eraseIdx j.toNat = lf at pm le
        have a5 : (st.set i (.lst (zeros (k + got.length + 1))) ++ [.lst lf, .lst got])[st.length + 1]? = some (.lst got) := by
          rw [List.getElem?_append_right (by simp)]; simp
        rw [q_app a5 (by omega)]
        refine ⟨lf, le.symm, got ++ [x], ?_, ?_⟩
        · refine List.Perm.trans ?_ hp
          have : (lf ++ (got ++ [x])).Perm ((x :: lf) ++ got) := by
            rw [← List.append_assoc]
            exact (List.perm_append_singleton x (lf ++ got))
          exact this.trans (pm.append_right got)
        · rw [List.set_append_right _ _ (by simp)]
          simp [Nat.add_assoc]
    · exact ⟨l, [], rfl, by simp, by simp [set_same hi], rfl⟩
  have fin : ∀ got, got.Perm l → fnQ st (fun d st1 => ∃ l', d = .lst l' ∧ l'.Perm l ∧ st1 = st.set i (.lst (zeros (k + l.length)))) noX (.rt (.ref (st.length + 1))) (st.set i (.lst (zeros (k + l.length))) ++ [.lst [], .lst got]) := by
    intro got hp
    have ht : List.take st.length (st.set i (.lst (zeros (k + l.length))) ++ [.lst [], .lst got]) = st.set i (.lst (zeros (k + l.length))) := by
      rw [List.take_append_of_le_length (by simp), List.take_of_length_le (by simp)]
    rw [fnQ_list (l := got) (by omega) (by rw [List.getElem?_append_right (by simp)]; simp) ?_ (.inr ?_), ht]
    · exact ⟨got, rfl, hp, rfl⟩
    · exact rlts_of fun x hx => rlts_mem (hr _) x (hp.mem_iff.mp hx)
    · rw [ht]
      exact fun o ho => wf_set hw o ho
  rcases hrow with rfl | rfl
  · simp [k_mixed, hl2]
    refine main _ fun got hp => ?_
    simp
    exact fin got hp
  · simp [k_mixed, hl2]
    refine main _ fun got hp => ?_
    simp
    exact fin got hp
theorem pick_seq (hT : T.get "_law_draw" = some k_draw) (hP : T.get "_law_pick" = some k_pick) (hn : 1 < n) {ns : List Int} {i k : Nat} {l : List D} {row : D} (hrow : row = .tup l ∨ row = .lst l) (hm : 0 < l.length) (hi : st[i]? = some (.lst (zeros k))) (hk : k < 1000000) (hr : ∀ x ∈ l, ∀ i, x ≠ .ref i) :
    wp (cfN T gc n "_law_pick" [.scr ns, .ref i, row]) st (fun d st1 => d ∈ l ∧ st1 = st.set i (.lst (zeros (k + 1)))) noX := by
  rcases hrow with rfl | rfl
  · obtain ⟨n, rfl⟩ : ∃ k, n = k + 1 := ⟨n - 1, by omega⟩
    rw [w_fn hP]
    simp [k_pick]
    refine wp_go (draw_at hT (by omega) (by omega) hi hk) ?_
    rintro _ _ ⟨j, h0, h1, rfl, rfl⟩
    obtain ⟨x, hx, hx2⟩ := at_of h0 h1
    simp [hx2]
    rw [fnQ_rt (by simp) (fun i e => absurd e (hr x hx i))]
    exact ⟨hx, rfl⟩
  · exact pick_at hT hP hn hm hi hk hr
/-- a sign of a text -/
theorem pick_str (hT : T.get "_law_draw" = some k_draw) (hP : T.get "_law_pick" = some k_pick) (hn : 1 < n) {ns : List Int} {i k : Nat} {z : Str} (hm : 0 < z.cps.toList.length) (hi : st[i]? = some (.lst (zeros k))) (hk : k < 1000000) :
    wp (cfN T gc n "_law_pick" [.scr ns, .ref i, .str z]) st (fun d st1 => (∃ c, c ∈ z.cps.toList ∧ d = .str ⟨#[c]⟩) ∧ st1 = st.set i (.lst (zeros (k + 1)))) noX := by
  obtain ⟨n, rfl⟩ : ∃ k, n = k + 1 := ⟨n - 1, by omega⟩
  have e : z.length = z.cps.toList.length := by simp [Str.length]
  rw [w_fn hP]
  simp [k_pick, e]
  refine wp_go (draw_at hT (by omega) (by simpa using hm) hi hk) ?_
  rintro _ _ ⟨j, h0, h1, rfl, rfl⟩
  obtain ⟨x, hx, hx2⟩ := at_of (l := z.cps.toList) h0 (by simpa using h1)
  simp [idxT, hx2]
  rw [fnQ_rt (by simp) (fun i e => by cases e)]
  exact ⟨⟨x, by simpa using hx, rfl⟩, rfl⟩
/-- _law_some: some of a row, each once -/
theorem some_at (hD : T.get "_law_draw" = some k_draw) (hP : T.get "_law_pick" = some k_pick) (hS : T.get "_law_some" = some k_some) (hn : 2 < n) {α : Type} [DecidableEq α] (f : α → D) (hf : ∀ (x : α) (l : List α), inL (f x) (l.map f) = some (decide (x ∈ l))) (hnr : ∀ x i, f x ≠ .ref i)
    {ns : List Int} {i k : Nat} {l : List α} {row : D} {top : Nat} (hrow : row = .tup (l.map f) ∨ row = .lst (l.map f)) (hi : st[i]? = some (.lst (zeros k))) (ht : top ≤ 1000) (hk : k + top + 1 < 1000000) :
    wp (cfN T gc n "_law_some" [.scr ns, .ref i, row, .int top]) st (fun d st1 => ∃ r : List α, ∃ k', d = .tup (r.map f) ∧ r.Nodup ∧ (∀ x ∈ r, x ∈ l) ∧ r.length ≤ top ∧ k' ≤ k + top + 1 ∧ st1 = st.set i (.lst (zeros k'))) noX := by
  obtain ⟨n, rfl⟩ : ∃ k, n = k + 1 := ⟨n - 1, by omega⟩
  have hlt := tw_lt hi
  rw [w_fn hS]
  simp [k_some]
  refine wp_go (draw_at hD (by omega) (by omega) hi (by omega)) ?_
  rintro _ _ ⟨j, h0, h1, rfl, rfl⟩
  have hlen : ∀ st2 (P : D → Sto → Prop) E, wp (gLen [row]) st2 P E = P (.int l.length) st2 := by
    intro st2 P E
    rcases hrow with rfl | rfl <;> simp
  obtain ⟨m, hm, hmt, hmz⟩ : ∃ m : Nat, (m : Int) = j * (if decide (0 < l.length) = true then 1 else 0) ∧ m ≤ top ∧ (0 < m → 0 < l.length) := by
    by_cases h : 0 < l.length
    · exact ⟨j.toNat, by simp [h]; omega, by omega, fun _ => h⟩
    · exact ⟨0, by simp [h], by omega, fun z => by omega⟩
  have e1 : ∀ st2 (P : D → Sto → Prop) E, wp (opMul false (.int j) (.int (if decide (0 < l.length) = true then 1 else 0))) st2 P E = P (.int m) st2 := by
    intro st2 P E
    rw [q_muli (.inl (by omega)), hm]
  rw [hlen, q_oGt, show (decide ((0 : Int) < (l.length : Nat))) = decide (0 < l.length) from by simp, q_int_bl, e1, q_rng m (by omega), lk_some]
  refine loop_inv (fun ds ρ st2 => ds.length ≤ m ∧ ∃ r : List α, ∃ x5 x6, r.Nodup ∧ (∀ x ∈ r, x ∈ l) ∧ r.length ≤ m - ds.length ∧ st2 = st.set i (.lst (zeros (k + 1 + (m - ds.length)))) ∧ ρ = [some (.scr ns), some (.ref i), some row, some (.int top), some (.tup (r.map f)), x5, x6]) ?_ ?_ ?_ _ _ _ ?_
  · intro ds ρ st2 _
    trivial
  · rintro d ds _ _ ⟨hd, r, x5, x6, r1, r2, r3, rfl, rfl⟩
    refine ⟨_, rfl, ?_⟩
    simp at hd r3
    have hl0 := hmz (by omega)
    simp
    refine wp_go (pick_seq hD hP (by omega) hrow (by simpa using hl0) (tw_set hi _) (by omega) (fun x hx i e => ?_)) ?_
    · obtain ⟨a, _, rfl⟩ := List.mem_map.mp hx
      exact hnr a i e
    · rintro d2 _ ⟨hd2, rfl⟩
      obtain ⟨a, ha, rfl⟩ := List.mem_map.mp hd2
      have hin : ∀ st2, inT st2 (f a) (.tup (r.map f)) = some (decide (a ∈ r)) := fun st2 => hf a r
      simp [hin]
      have hkk : k + 1 + (m - (ds.length + 1)) + 1 = k + 1 + (m - ds.length) := by omega
      rw [hkk]
      by_cases har : a ∈ r
      · have e2 : ∀ st2 (P : D → Sto → Prop) E, wp (opMul false (.tup [f a]) (.int (if a ∈ r then 0 else 1))) st2 P E = P (.tup []) st2 := by
          intro st2 P E
          have := q_mul_tup (st := st2) (P := P) (E := E) false false [f a]
          simpa [har] using this
        rw [e2]
        have hrl : r.length ≤ 16777216 := by omega
        simp [hrl]
        exact ⟨by omega, r, r1, r2, by omega, rfl⟩
      · have e2 : ∀ st2 (P : D → Sto → Prop) E, wp (opMul false (.tup [f a]) (.int (if a ∈ r then 0 else 1))) st2 P E = P (.tup [f a]) st2 := by
          intro st2 P E
          have := q_mul_tup (st := st2) (P := P) (E := E) false true [f a]
          simpa [har] using this
        rw [e2]
        have hrl : r.length ≤ 16777215 := by omega
        simp [hrl]
        refine ⟨by omega, r ++ [a], ?_, ?_, by simp; omega, by simp⟩
        · rw [List.nodup_append]
          exact ⟨r1, by simp, fun x hx y hy => by simp at hy; subst hy; rintro rfl; exact har hx⟩
        · intro x hx
          rcases List.mem_append.mp hx with h | h
          · exact r2 x h
          · simp at h; subst h; exact ha
  · rintro _ _ ⟨_, r, x5, x6, r1, r2, r3, rfl, rfl⟩
    simp at r3
    simp
    rw [fnQ_rt (by simp) (fun i e => by cases e)]
    exact ⟨r, rfl, r1, r2, by omega, _, by omega, rfl⟩
  · refine ⟨by simp [rngL], [], none, none, List.nodup_nil, (fun x h => nomatch h), by simp, ?_, rfl⟩
    simp [rngL]
end
end TB
set_option Elab.async false
set_option linter.all false
set_option maxRecDepth 100000
set_option maxHeartbeats 4000000
/-! TB20: how the laws make deeds, stages, members -/
namespace TB
open PySem PySem.Spec L2
section
variable {T : Tab} {gc : Str → Option D} {n : Nat} {st : Sto} {P : D → Sto → Prop} {E : Str → Sto → Prop}
def Deed.ok : Deed → Prop
  | .set k n => (k = "k" ∨ k = "m" ∨ k = "n") ∧ -3 ≤ n ∧ n ≤ 5
  | .add k n => (k = "k" ∨ k = "m" ∨ k = "n") ∧ -3 ≤ n ∧ n ≤ 5
  | .ask k n => (k = "k" ∨ k = "m" ∨ k = "n") ∧ -3 ≤ n ∧ n ≤ 5
  | .say w => w = "a" ∨ w = "bc" ∨ w = "d"
  | .fail => True
  | .leave => True
structure LawT (T : Tab) : Prop where
  draw : T.get "_law_draw" = some k_draw
  pick : T.get "_law_pick" = some k_pick
  mixed : T.get "_law_mixed" = some k_mixed
  some_ : T.get "_law_some" = some k_some
  deeds : T.get "_law_deeds" = some k_deeds
  stages : T.get "_law_stages" = some k_stages
  member : T.get "_law_member" = some k_member
  members : T.get "_law_members" = some k_members
  book : T.get "_law_book" = some k_book
theorem deeds_at (L : LawT T) (hn : 2 < n) {ns : List Int} {i k top : Nat} (hi : st[i]? = some (.lst (zeros k))) (ht : top ≤ 100) (hk : k + 4 * top + 1 < 1000000) :
    wp (cfN T gc n "_law_deeds" [.scr ns, .ref i, .int top]) st (fun d st1 => ∃ ds : List Deed, ∃ k', d = dsD ds ∧ ds.length ≤ top ∧ (∀ x ∈ ds, x.ok) ∧ k' ≤ k + 4 * top + 1 ∧ st1 = st.set i (.lst (zeros k'))) noX := by
  obtain ⟨n, rfl⟩ : ∃ k, n = k + 1 := ⟨n - 1, by omega⟩
  have hlt := tw_lt hi
  rw [w_fn L.deeds]
  simp [k_deeds]
  refine wp_go (draw_at L.draw (by omega) (by omega) hi (by omega)) ?_
  rintro _ _ ⟨j, h0, h1, rfl, rfl⟩
  obtain ⟨m, rfl⟩ : ∃ m : Nat, j = m := ⟨j.toNat, by omega⟩
  rw [q_rng m (by omega), lk_some]
  refine loop_inv (fun ds ρ st2 => ds.length ≤ m ∧ ∃ r : List Deed, ∃ kk x4 x5 x6 x7, (∀ x ∈ r, x.ok) ∧ r.length ≤ m - ds.length ∧ kk ≤ k + 1 + 4 * (m - ds.length) ∧ st2 = st.set i (.lst (zeros kk)) ∧ ρ = [some (.scr ns), some (.ref i), some (.int top), some (dsD r), x4, x5, x6, x7]) ?_ ?_ ?_ _ _ _ ?_
  · intro ds ρ st2 _
    trivial
  · rintro d ds _ _ ⟨hd, r, kk, x4, x5, x6, x7, r2, r3, r4, rfl, rfl⟩
    refine ⟨_, rfl, ?_⟩
    simp at hd r3 r4
    have hkmn : ("kmn" : Str).cps.toList = [107, 109, 110] := by decide +kernel
    simp
    refine wp_go (pick_str L.draw L.pick (by omega) (by rw [hkmn]; simp) (tw_set hi _) (by omega)) ?_
    rintro _ _ ⟨⟨c, hc, rfl⟩, rfl⟩
    have hkey : (⟨#[c]⟩ : Str) = "k" ∨ (⟨#[c]⟩ : Str) = "m" ∨ (⟨#[c]⟩ : Str) = "n" := by
      rw [hkmn] at hc
      simp at hc
      rcases hc with rfl | rfl | rfl
      · exact .inl (by decide +kernel)
      · exact .inr (.inl (by decide +kernel))
      · exact .inr (.inr (by decide +kernel))
    generalize (⟨#[c]⟩ : Str) = key at hkey
    simp
    refine wp_go (draw_at L.draw (by omega) (by omega) (tw_set hi _) (by omega)) ?_
    rintro _ _ ⟨j2, h02, h12, rfl, rfl⟩
    simp
    refine wp_go (pick_at L.draw L.pick (by omega) (by simp) (tw_set hi _) (by omega) (by simp)) ?_
    rintro w _ ⟨hw, rfl⟩
    simp
    refine wp_go (pick_at L.draw L.pick (by omega) (by simp) (tw_set hi _) (by omega) (by simp)) ?_
    rintro q _ ⟨hq, rfl⟩
    simp at hw hq
    have hx : ∃ x : Deed, x.ok ∧ ∀ st2, idxT st2 (D.lst
        [D.tup [D.str (Str.ofString "set"), D.str key, D.int (j2 - 1)],
          D.tup [D.str (Str.ofString "add"), D.str key, D.int (j2 - 1)],
          D.tup [D.str (Str.ofString "add"), D.str key, D.int (j2 - 1)],
          D.tup [D.str (Str.ofString "ask"), D.str key, D.int (j2 - 1)], D.tup [D.str (Str.ofString "say"), w],
          D.tup [D.str (Str.ofString "fail")], D.tup [D.str (Str.ofString "leave")]]) q = some x.d := by
      obtain ⟨w', rfl, hw'⟩ : ∃ w', w = .str w' ∧ (w' = "a" ∨ w' = "bc" ∨ w' = "d") := by
        rcases hw with rfl | rfl | rfl
        · exact ⟨_, rfl, .inl rfl⟩
        · exact ⟨_, rfl, .inr (.inl rfl)⟩
        · exact ⟨_, rfl, .inr (.inr rfl)⟩
      have hs : (Deed.set key (j2 - 1)).ok := ⟨hkey, by omega, by omega⟩
      have ha : (Deed.add key (j2 - 1)).ok := ⟨hkey, by omega, by omega⟩
      have hk' : (Deed.ask key (j2 - 1)).ok := ⟨hkey, by omega, by omega⟩
      have hy : (Deed.say w').ok := hw'
      rcases hq with rfl | rfl | rfl | rfl | rfl | rfl | rfl | rfl | rfl
      · exact ⟨_, hs, fun _ => by rw [q_ix_lst, at0]; rfl⟩
      · exact ⟨_, ha, fun _ => by rw [q_ix_lst, at1]; rfl⟩
      · exact ⟨_, ha, fun _ => by rw [q_ix_lst, at2]; rfl⟩
      · exact ⟨_, hk', fun _ => by rw [q_ix_lst, at3]; rfl⟩
      · exact ⟨_, hy, fun _ => by rw [q_ix_lst, at4]; rfl⟩
      · exact ⟨_, hs, fun _ => by rw [q_ix_lst, at0]; rfl⟩
      · exact ⟨_, ha, fun _ => by rw [q_ix_lst, at1]; rfl⟩
      · exact ⟨.fail, trivial, fun _ => by rw [q_ix_lst, at5]; rfl⟩
      · exact ⟨.leave, trivial, fun _ => by rw [q_ix_lst, at6]; rfl⟩
    obtain ⟨x, hx1, hx2⟩ := hx
    rw [hx2, lk_some]
    have hrl : (r.length ≤ 16777215) = True := eq_true (by omega)
    simp [dsD, hrl]
    refine ⟨by omega, r ++ [x], ?_, by simp; omega, kk + 1 + 1 + 1 + 1, by omega, rfl, by simp⟩
    intro y hy
    rcases List.mem_append.mp hy with h | h
    · exact r2 y h
    · simp at h; subst h; exact hx1
  · rintro _ _ ⟨_, r, kk, x4, x5, x6, x7, r2, r3, r4, rfl, rfl⟩
    simp at r3 r4
    simp
    rw [fnQ_rt (by simp) (fun i e => by cases e)]
    exact ⟨r, rfl, by omega, r2, kk, by omega, rfl⟩
  · exact ⟨by simp [rngL], [], k + 1, none, none, none, none, (fun x h => nomatch h), by simp, by simp [rngL], rfl, rfl⟩
end
end TB
set_option Elab.async false
set_option linter.all false
set_option maxRecDepth 100000
set_option maxHeartbeats 4000000
/-! TB21: how the laws make stages -/
namespace TB
open PySem PySem.Spec L2
mutual
theorem rlt_mono {n m : Nat} (h : n ≤ m) : ∀ d : D, d.rlt n = true → d.rlt m = true
  | .tup l, e => rlts_mono h l e
  | .lst l, e => rlts_mono h l e
  | .ref i, e => decide_eq_true (Nat.lt_of_lt_of_le (of_decide_eq_true e) h)
  | .non, _ => rfl
  | .bl _, _ => rfl
  | .int _, _ => rfl
  | .str _, _ => rfl
  | .fn _, _ => rfl
  | .scr _, _ => rfl
theorem rlts_mono {n m : Nat} (h : n ≤ m) : ∀ l : List D, D.rlts n l = true → D.rlts m l = true
  | [], _ => rfl
  | d :: l, e => by
    simp only [D.rlts, Bool.and_eq_true] at e ⊢
    exact ⟨rlt_mono h d e.1, rlts_mono h l e.2⟩
end
theorem MO.rlt_mono {n m : Nat} (h : n ≤ m) : ∀ o : MO, o.rlt n = true → o.rlt m = true
  | .lst l, e => rlts_mono h l e
  | .dct kvs, e => rlts_mono h _ e
  | .ins _ fs, e => rlts_mono h _ e
theorem Wf.push {st : Sto} {o : MO} (h : Wf st) (ho : o.rlt (st.length + 1) = true) : Wf (st ++ [o]) := by
  intro x hx
  rw [List.length_append]
  rcases List.mem_append.mp hx with z | z
  · exact MO.rlt_mono (Nat.le_add_right _ _) x (h x z)
  · simp at z; subst z; exact ho
def farN (x : Str) : Int := if x = "all" then 2 else if x = "group" then 1 else 0
def reachOk (x : Str) : Prop := x = "each" ∨ x = "group" ∨ x = "all"
/-- a stage behind others -/
structure okStage (pre : List Stage) (s : Stage) : Prop where
  reach : reachOk s.reach
  nd : s.wants.Nodup
  few : s.wants.length ≤ 2
  wants : ∀ w ∈ s.wants, ∃ p ∈ pre, p.name = w ∧ farN s.reach ≤ farN p.reach
  ups : s.ups.length ≤ 2 ∧ ∀ x ∈ s.ups, x.ok
  downs : s.downs.length ≤ 2 ∧ ∀ x ∈ s.downs, x.ok
def okStages (ss : List Stage) : Prop := ∀ pre s post, ss = pre ++ s :: post → okStage pre s
theorem okStages.snoc {ss : List Stage} {s : Stage} (h : okStages ss) (hs : okStage ss s) : okStages (ss ++ [s]) := by
  intro pre x post e
  rcases List.eq_nil_or_concat post with rfl | ⟨post', y, rfl⟩
  · have := List.append_inj' e rfl
    cases this.2
    rw [← this.1]; exact hs
  · rw [List.concat_eq_append, ← List.cons_append, ← List.append_assoc] at e
    have := List.append_inj' e rfl
    exact h pre x post' this.1
def stNames : List Str := ["p", "q", "r", "s", "tu", "v"]
def farD : List (Key × D) := [(.inr "each", .int 0), (.inr "group", .int 1), (.inr "all", .int 2)]
theorem far_eq : mergeG [] [(.inr (Str.ofString "each"), D.int 0), (.inr (Str.ofString "group"), .int 1), (.inr (Str.ofString "all"), .int 2)] = farD := by
  simp [mergeG, putG, farD]
theorem far_val {x : Str} (h : reachOk x) : valG farD (.inr x) = some (.int (farN x)) := by
  rcases h with rfl | rfl | rfl <;> simp [valG, farD, farN]
def strOf : D → Str
  | .str x => x
  | _ => ""
theorem perm_str {l' : List D} {l : List Str} (h : l'.Perm (l.map .str)) : ∃ r : List Str, l' = r.map .str ∧ r.Perm l := by
  refine ⟨l'.map strOf, ?_, ?_⟩
  · rw [List.map_map]
    have : ∀ x ∈ l', (D.str ∘ strOf) x = x := by
      intro x hx
      obtain ⟨y, _, rfl⟩ := List.mem_map.mp (h.mem_iff.mp hx)
      rfl
    exact (List.map_congr_left this |>.trans (List.map_id' l')).symm
  · have := h.map strOf
    rw [List.map_map] at this
    have e : List.map (strOf ∘ D.str) l = l := by
      conv => rhs; rw [← List.map_id l]
      rfl
    rwa [e] at this
theorem cut_take {τ : Type} (l : List τ) {j : Int} (h : 0 ≤ j) : cutG l none (some j) = l.take j.toNat := by
  unfold cutG
  rw [HT.sIx_none, List.drop_zero, Nat.sub_zero]
  show l.take (if j < 0 then (j + (l.length : Int)).toNat else min j.toNat l.length) = _
  rw [if_neg (by omega), ← List.take_eq_take_min]
theorem set1 {i : Nat} {st r : Sto} {b : MO} (h : i < st.length) : (st ++ r).set i b = st.set i b ++ r := by
  rw [List.set_append_left _ _ h]
def dReach : D → Str
  | .tup [_, .str r, _, _, _] => r
  | _ => ""
def dName : D → Str
  | .tup [.str x, _, _, _, _] => x
  | _ => ""
theorem filter_stage (p : Stage → Bool) (c : D → Bool) (h : ∀ s : Stage, c s.d = p s) : ∀ ss : List Stage, ((ss.map Stage.d).filter c).map (fun d => D.str (dName d)) = ((ss.filter p).map Stage.name).map .str
  | [] => rfl
  | s :: ss => by
    rw [List.map_cons]
    by_cases e : p s = true
    · rw [List.filter_cons_of_pos (by rw [h]; exact e), List.filter_cons_of_pos e, List.map_cons, List.map_cons, List.map_cons, filter_stage p c h ss]; rfl
    · rw [List.filter_cons_of_neg (by rw [h]; exact e), List.filter_cons_of_neg e, filter_stage p c h ss]
theorem okStages.mem {ss : List Stage} (h : okStages ss) {s : Stage} (hs : s ∈ ss) : ∃ pre, okStage pre s ∧ ∀ x ∈ pre, x ∈ ss := by
  obtain ⟨pre, post, rfl⟩ := List.append_of_mem hs
  exact ⟨pre, h pre s post rfl, fun x hx => List.mem_append_left _ hx⟩
section
variable {T : Tab} {gc : Str → Option D} {n : Nat} {st : Sto} {P : D → Sto → Prop} {E : Str → Sto → Prop}
theorem stage_rlt (m : Nat) (s : Stage) : s.d.rlt m = true := by simp [Stage.d, D.rlt, D.rlts, rlt_sD, rlt_dsD]
theorem stages_at (L : LawT T) (hn : 5 < n) {ns : List Int} {i k : Nat} (hi : st[i]? = some (.lst (zeros k))) (hw : Wf st) (hk : k + 1000 < 1000000) :
    wp (cfN T gc n "_law_stages" [.scr ns, .ref i]) st (fun d st1 => ∃ ss : List Stage, ∃ k', d = .tup (ss.map Stage.d) ∧ okStages ss ∧ (ss.map Stage.name).Nodup ∧ (∀ s ∈ ss, s.name ∈ stNames) ∧ ss.length ≤ 6 ∧ k' ≤ k + 1000 ∧ st1 = st.set i (.lst (zeros k'))) noX := by
  obtain ⟨n, rfl⟩ : ∃ k, n = k + 1 := ⟨n - 1, by omega⟩
  have hlt := tw_lt hi
  rw [w_fn L.stages]
  simp [k_stages, far_eq]
  have hi2 : (st ++ [.dct farD])[i]? = some (.lst (zeros k)) := by rw [List.getElem?_append_left hlt]; exact hi
  have hw2 : Wf (st ++ [.dct farD]) := hw.push rfl
  refine wp_go (mixed_at L.draw L.mixed (by omega) (l := stNames.map .str) (.inl rfl) (fun m => rlt_str m _) hi2 hw2 (by decide) (by simp [stNames]; omega)) ?_
  rintro _ _ ⟨l', rfl, hp, rfl⟩
  obtain ⟨nm, rfl, hpn⟩ := perm_str hp
  have s6 : stNames.length = 6 := rfl
  have tw3 : ∀ z, (st.set i (.lst (zeros z)) ++ [.dct farD])[i]? = some (.lst (zeros z)) := fun z => by
    rw [List.getElem?_append_left (by simpa using hlt)]; exact List.getElem?_set_self hlt
  rw [set1 hlt]
  simp [s6]
  refine wp_go (draw_at L.draw (by omega) (by omega) (tw3 _) (by omega)) ?_
  rintro _ _ ⟨j, h0, h1, rfl, rfl⟩
  have cl : (cutG (nm.map D.str) none (some j)).length ≤ 16777216 := by
    refine Nat.le_trans (show (cutG (nm.map D.str) none (some j)).length ≤ (nm.map D.str).length from ?_) ?_
    · unfold cutG; rw [List.length_take, List.length_drop]; omega
    · rw [List.length_map, hpn.length_eq, s6]; omega
  rw [set2 hlt]
  simp [cl]
  rw [cut_take _ h0, ← List.map_take]
  have hsub : (nm.take j.toNat).Nodup ∧ (∀ x ∈ nm.take j.toNat, x ∈ stNames) ∧ (nm.take j.toNat).length ≤ 6 := by
    refine ⟨(hpn.nodup_iff.mpr (by decide +kernel)).sublist (List.take_sublist _ _), fun x hx => hpn.mem_iff.mp (List.mem_of_mem_take hx), ?_⟩
    rw [List.length_take, hpn.length_eq, s6]; omega
  generalize nm.take j.toNat = nl at hsub
  obtain ⟨u1, u2, u3⟩ := hsub
  refine loop_inv (fun ds ρ st2 => ∃ (ss : List Stage) (rest : List Str) (kk : Nat) (x4 x5 x6 x7 x8 x9 : Option D), nl = ss.map Stage.name ++ rest ∧ ds = rest.map .str ∧ okStages ss ∧ kk ≤ k + 7 + 50 * ss.length ∧ st2 = st.set i (.lst (zeros kk)) ++ [.dct farD] ∧ ρ = [some (.scr ns), some (.ref i), some (.tup (ss.map Stage.d)), some (.ref st.length), x4, x5, x6, x7, x8, x9]) ?_ ?_ ?_ _ _ _ ?_
  · intro ds ρ st2 _
    trivial
  · rintro d ds _ _ ⟨ss, rest, kk, x4, x5, x6, x7, x8, x9, e1, e2, ok, hkk, rfl, rfl⟩
    cases rest with
    | nil => cases e2
    | cons name rest =>
      simp only [List.map_cons, List.cons.injEq] at e2
      obtain ⟨rfl, rfl⟩ := e2
      refine ⟨_, rfl, ?_⟩
      have hss : ss.length ≤ 5 := by rw [e1] at u3; simp at u3; omega
      simp
      refine wp_go (pick_at L.draw L.pick (by omega) (by simp) (tw3 _) (by omega) (by simp)) ?_
      rintro rd _ ⟨hrd, rfl⟩
      obtain ⟨reach, rfl, hreach⟩ : ∃ r, rd = .str r ∧ reachOk r := by
        simp at hrd
        rcases hrd with rfl | rfl | rfl
        · exact ⟨_, rfl, .inl rfl⟩
        · exact ⟨_, rfl, .inr (.inl rfl)⟩
        · exact ⟨_, rfl, .inr (.inr rfl)⟩
      rw [set2 hlt]
      rw [lc_pure (fun d => [some (.scr ns), some (.ref i), some (.tup (ss.map Stage.d)), some (.ref st.length), some (.str name), some (.str reach), x6, x7, x8, some d]) (fun d => decide (farN reach ≤ farN (dReach d))) (fun d => .str (dName d)) (by trivial) _ _ (fun d _ => rfl)]
      · rw [filter_stage (fun s => decide (farN reach ≤ farN s.reach)) _ (fun s => rfl)]
        have hfl : ((((ss.filter fun s => decide (farN reach ≤ farN s.reach)).map Stage.name).map D.str).length ≤ 16777216) = True := eq_true (by
          rw [List.length_map, List.length_map]
          have := List.length_filter_le (fun s => decide (farN reach ≤ farN s.reach)) ss
          omega)
        rw [hfl, true_and]
        refine wp_go (some_at L.draw L.pick L.some_ (by omega) (f := D.str) inL_strs (fun x i e => by cases e) (top := 2) (.inr rfl) (tw3 _) (by omega) (by omega)) ?_
        rintro _ _ ⟨wr, k1, rfl, w1, w2, w3, hk1, rfl⟩
        rw [set2 hlt]
        refine wp_go (deeds_at L (by omega) (top := 2) (tw3 _) (by omega) (by omega)) ?_
        rintro _ _ ⟨up, k2, rfl, p1, p2, hk2, rfl⟩
        rw [set2 hlt]
        refine wp_go (deeds_at L (by omega) (top := 2) (tw3 _) (by omega) (by omega)) ?_
        rintro _ _ ⟨dn, k3, rfl, q1, q2, hk3, rfl⟩
        rw [set2 hlt]
        refine ⟨by omega, ss ++ [⟨name, reach, wr, up, dn⟩], rest, ?_, rfl, ok.snoc ⟨hreach, w1, w3, ?_, ⟨p1, p2⟩, ⟨q1, q2⟩⟩, k3, ?_, rfl, ?_⟩
        · rw [e1]; simp
        · intro x hx
          obtain ⟨p, hp, rfl⟩ := List.mem_map.mp (w2 x hx)
          rw [List.mem_filter] at hp
          exact ⟨p, hp.1, rfl, of_decide_eq_true hp.2⟩
        · simp; omega
        · simp [Stage.d, sD]
      · intro d hd P
        obtain ⟨s, hs, rfl⟩ := List.mem_map.mp hd
        obtain ⟨pre, os, _⟩ := ok.mem hs
        simp [Stage.d, ix_dct (st := st.set i (.lst (zeros (kk + 1))) ++ [.dct farD]) (n := st.length) (kvs := farD) (by simp), far_val hreach, far_val os.reach, dReach]
        exact Iff.of_eq (by congr)
      · intro d hd _ P
        obtain ⟨s, hs, rfl⟩ := List.mem_map.mp hd
        simp [Stage.d, dName]
  · rintro _ _ ⟨ss, rest, kk, x4, x5, x6, x7, x8, x9, e1, e2, ok, hkk, rfl, rfl⟩
    cases rest with
    | cons _ _ => cases e2
    | nil =>
      rw [List.append_nil] at e1
      subst e1
      simp at u3
      simp
      have ht : List.take st.length (st.set i (.lst (zeros kk)) ++ [.dct farD]) = st.set i (.lst (zeros kk)) := by
        rw [List.take_append_of_le_length (by simp), List.take_of_length_le (by simp)]
      have hrl : (D.tup (ss.map Stage.d)).rlt st.length = true := rlts_of fun x hx => by obtain ⟨s, _, rfl⟩ := List.mem_map.mp hx; exact stage_rlt _ s
      rw [fnQ_drop (d := .tup (ss.map Stage.d)) (fun i e => by cases e) hrl (.inr (by rw [ht]; exact wf_set hw)), ht]
      exact ⟨ss, rfl, ok, u1, fun s hs => u2 _ (List.mem_map_of_mem hs), u3, kk, by omega, rfl⟩
  · exact ⟨[], nl, k + 7, none, none, none, none, none, none, rfl, rfl, fun pre s post e => (by simp at e), by simp, rfl, rfl⟩
end
end TB
set_option Elab.async false
set_option linter.all false
set_option maxRecDepth 100000
set_option maxHeartbeats 4000000
/-! TB22: how the laws make members and books -/
namespace TB
open PySem PySem.Spec L2
def mkL3 : List Str := ["x", "y", "slow"]
def nmL : List Str := ["a", "b", "c", "de"]
def nmZ : List Str := ["a", "b", "c", "de", "z"]
theorem nm_nmZ : ∀ x ∈ nmL, x ∈ nmZ := by
  intro x hx
  simp [nmL] at hx
  simp [nmZ]
  rcases hx with h | h | h | h <;> simp [h]
def nuL : List Int := [0, 1, 2, -3]
def Mem.name : Mem → Str
  | .try_ n _ _ _ => n
  | .many n _ _ _ _ _ => n
  | .group n _ _ _ => n
structure okMW (sn m w : List Str) : Prop where
  m1 : m.Nodup
  m2 : ∀ x ∈ m, x ∈ mkL3
  m3 : m.length ≤ 2
  w1 : w.Nodup
  w2 : ∀ x ∈ w, x ∈ sn
  w3 : w.length ≤ 2
def okDs (t : Nat) (ds : List Deed) : Prop := ds.length ≤ t ∧ ∀ x ∈ ds, x.ok
def okNums (ns : List Int) : Prop := ns ≠ [] ∧ ns.Nodup ∧ (∀ i ∈ ns, i ∈ nuL ++ [5]) ∧ ns.length ≤ 3
mutual
def Mem.ok (sn : List Str) : Nat → Mem → Prop
  | _, .try_ _ m w ds => okMW sn m w ∧ okDs 3 ds
  | _, .many _ m w k ns ds => okMW sn m w ∧ (k = "k" ∨ k = "m") ∧ okNums ns ∧ okDs 2 ds
  | 0, .group _ _ _ _ => False
  | k + 1, .group _ m w ms => okMW sn m w ∧ ms.length ≤ 4 ∧ (ms.map Mem.name).Nodup ∧ (∀ x ∈ ms.map Mem.name, x ∈ nmL) ∧ oksIn sn k ms
def oksIn (sn : List Str) : Nat → List Mem → Prop
  | _, [] => True
  | k, m :: ms => m.ok sn k ∧ oksIn sn k ms
end
theorem oksIn_app {sn : List Str} {k : Nat} : ∀ {a b : List Mem}, oksIn sn k a → oksIn sn k b → oksIn sn k (a ++ b)
  | [], _, _, h => h
  | m :: a, b, h1, h2 => by
    simp only [List.cons_append, oksIn] at h1 ⊢
    exact ⟨h1.1, oksIn_app h1.2 h2⟩
/-- a good book -/
structure Book.ok (b : Book) : Prop where
  st1 : okStages b.stages
  st2 : (b.stages.map Stage.name).Nodup
  st3 : ∀ s ∈ b.stages, s.name ∈ stNames
  st4 : b.stages.length ≤ 6
  m1 : oksIn (b.stages.map Stage.name) 2 b.mems
  m2 : (b.mems.map Mem.name).Nodup
  m3 : ∀ x ∈ b.mems.map Mem.name, x ∈ nmZ
  m4 : b.mems.length ≤ 5
mutual
theorem Mem.ok_mono {sn : List Str} : ∀ (k : Nat) (m : Mem), m.ok sn k → m.ok sn (k + 1)
  | _, .try_ _ _ _ _, h => by simpa only [Mem.ok] using h
  | _, .many _ _ _ _ _ _, h => by simpa only [Mem.ok] using h
  | 0, .group _ _ _ _, h => by simp only [Mem.ok] at h
  | k + 1, .group _ m w ms, h => by
    simp only [Mem.ok] at h
    rw [Mem.ok]
    exact ⟨h.1, h.2.1, h.2.2.1, h.2.2.2.1, oksIn_mono k ms h.2.2.2.2⟩
theorem oksIn_mono {sn : List Str} : ∀ (k : Nat) (ms : List Mem), oksIn sn k ms → oksIn sn (k + 1) ms
  | _, [], _ => by simp only [oksIn]
  | k, m :: ms, h => by
    simp only [oksIn] at h ⊢
    exact ⟨Mem.ok_mono k m h.1, oksIn_mono k ms h.2⟩
end
theorem any_ints (x : Int) : ∀ l : List Int, ((l.map PyData.int).any fun z => z.eqv (.int x)) = decide (x ∈ l)
  | [] => rfl
  | y :: l => by
    rw [List.map_cons, List.any_cons, any_ints x l]
    have : (y == x) = decide (x = y) := by rw [Bool.eq_iff_iff, beq_iff_eq, decide_eq_true_eq]; exact eq_comm
    simp [PyData.eqv, List.mem_cons, this]
theorem depth_ints : ∀ l : List Int, PyData.depthAll (l.map .int) = 0
  | [] => rfl
  | x :: l => by simp [PyData.depthAll, PyData.depth, depth_ints l]
theorem inL_ints (x : Int) (l : List Int) : inL (.int x) (l.map .int) = some (decide (x ∈ l)) := by
  simp only [inL, D.py, pys_int, PyData.depth, depth_ints, any_ints]
  rfl
theorem q_negi {st : Sto} {P : D → Sto → Prop} {E : Str → Sto → Prop} (i : Int) : wp (gNeg (.int i)) st P E = P (.int (-i)) st := rfl
theorem memsD_len : ∀ ms : List Mem, (memsD ms).length = ms.length
  | [] => rfl
  | m :: ms => by simp [memsD, memsD_len ms]
def cB : Nat → Nat
  | 0 => 21
  | k + 1 => 12 + 4 * cB k
theorem cB_ge : ∀ k, 21 ≤ cB k
  | 0 => Nat.le_refl _
  | k + 1 => by have := cB_ge k; simp only [cB]; omega
theorem filt_true {α : Type} (l : List α) : l.filter (fun _ => true) = l := List.filter_eq_self.mpr fun _ _ => rfl
section
variable {T : Tab} {gc : Str → Option D} {P : D → Sto → Prop} {E : Str → Sto → Prop}
def MemS (T : Tab) (gc : Str → Option D) (left : Nat) : Prop := ∀ (n : Nat) (st : Sto) (ns : List Int) (i k : Nat) (nm : Str) (sn : List Str), st[i]? = some (.lst (zeros k)) → Wf st → 3 + 2 * left < n → k + 4000 * (2 * left + 1) < 1000000 →
  wp (cfN T gc n "_law_member" [.scr ns, .ref i, .str nm, .lst (sn.map .str), .int left]) st (fun d st1 => ∃ (m : Mem) (k' : Nat), d = m.d ∧ m.name = nm ∧ m.ok sn left ∧ k' ≤ k + cB left ∧ st1 = st.set i (.lst (zeros k'))) noX
def MemsS (T : Tab) (gc : Str → Option D) (left : Nat) : Prop := ∀ (n : Nat) (st : Sto) (ns : List Int) (i k : Nat) (sn : List Str), st[i]? = some (.lst (zeros k)) → Wf st → 4 + 2 * left < n → k + 4000 * (2 * left + 2) < 1000000 →
  wp (cfN T gc n "_law_members" [.scr ns, .ref i, .lst (sn.map .str), .int left]) st (fun d st1 => ∃ (ms : List Mem) (k' : Nat), d = .tup (memsD ms) ∧ ms.length ≤ 4 ∧ (ms.map Mem.name).Nodup ∧ (∀ x ∈ ms.map Mem.name, x ∈ nmL) ∧ oksIn sn left ms ∧ k' ≤ k + (5 + 4 * cB left) ∧ st1 = st.set i (.lst (zeros k'))) noX
theorem member_of (L : LawT T) {left : Nat} (hl : left ≤ 2) (h : ∀ l', left = l' + 1 → MemsS T gc l') : MemS T gc left := by
  intro n st ns i k nm sn hi hw hn hk
  obtain ⟨n, rfl⟩ : ∃ k, n = k + 1 := ⟨n - 1, by omega⟩
  have hlt := tw_lt hi
  rw [w_fn L.member]
  simp [k_member]
  refine wp_go (some_at L.draw L.pick L.some_ (by omega) (f := D.str) inL_strs (fun x i e => by cases e) (l := mkL3) (top := 2) (.inr rfl) hi (by omega) (by omega)) ?_
  rintro _ _ ⟨mr, k1, rfl, m1, m2, m3, hk1, rfl⟩
  refine wp_go (some_at L.draw L.pick L.some_ (by omega) (f := D.str) inL_strs (fun x i e => by cases e) (l := sn) (top := 2) (.inr rfl) (tw_set hi _) (by omega) (by omega)) ?_
  rintro _ _ ⟨wr, k2, rfl, w1, w2, w3, hk2, rfl⟩
  have mw : okMW sn mr wr := ⟨m1, m2, m3, w1, w2, w3⟩
  simp
  refine wp_go (draw_at L.draw (by omega) (by omega) (tw_set hi _) (by omega)) ?_
  rintro _ _ ⟨j, h0, h1, rfl, rfl⟩
  simp [q_negi]
  have cb := cB_ge left
  have hTry : wp (cfN T gc n (Str.ofString "_law_deeds") [D.scr ns, D.ref i, D.int 3]) (st.set i (.lst (zeros (k2 + 1)))) (fun d st1 => fnQ st (fun d st1 => ∃ m : Mem, d = m.d ∧ m.name = nm ∧ Mem.ok sn left m ∧ ∃ x, x ≤ k + cB left ∧ st1 = st.set i (.lst (zeros x))) noX
      (Out.rt (D.tup [D.str (Str.ofString "try"), D.str nm, D.tup (mr.map D.str), D.tup (wr.map D.str), d])) st1) noX := by
    refine wp_go (deeds_at L (by omega) (top := 3) (tw_set hi _) (by omega) (by omega)) ?_
    rintro _ _ ⟨ds, k3, rfl, d1, d2, hk3, rfl⟩
    rw [fnQ_rt (by simp) (fun i e => by cases e)]
    exact ⟨.try_ nm mr wr ds, rfl, rfl, by simp only [Mem.ok]; exact ⟨mw, d1, d2⟩, k3, by omega, by simp⟩
  split
  · split
    · rename_i hl0
      obtain ⟨l', rfl⟩ : ∃ l', left = l' + 1 := ⟨left - 1, by omega⟩
      have e : ((l' + 1 : Nat) : Int) - 1 = (l' : Int) := by omega
      rw [e]
      refine wp_go (h l' rfl n _ ns i (k2 + 1) sn (tw_set hi _) hw.tw (by omega) (by omega)) ?_
      rintro _ _ ⟨ms, k3, rfl, s1, s2, s3, s4, hk3, rfl⟩
      rw [fnQ_rt (by simp) (fun i e => by cases e)]
      refine ⟨.group nm mr wr ms, rfl, rfl, by simp only [Mem.ok]; exact ⟨mw, s1, s2, s3, s4⟩, k3, ?_, by simp⟩
      simp only [cB]
      omega
    · split
      · omega
      · exact wp_mono hTry (fun _ _ h => h) (fun _ _ z => False.elim z)
  · split
    · have hkm : ("km" : Str).cps.toList = [107, 109] := by decide +kernel
      refine wp_go (some_at L.draw L.pick L.some_ (by omega) (f := D.int) inL_ints (fun x i e => by cases e) (l := nuL) (top := 3) (.inr rfl) (tw_set hi _) (by omega) (by omega)) ?_
      rintro _ _ ⟨nr, k3, rfl, n1, n2, n3, hk3, rfl⟩
      have main : ∀ nums : List Int, okNums nums → ∀ tail : D → Str → Sto → Prop, wp (cfN T gc n (Str.ofString "_law_pick") [D.scr ns, D.ref i, D.str (Str.ofString "km")]) (st.set i (.lst (zeros k3))) (fun d_1 st1 =>
          wp (cfN T gc n (Str.ofString "_law_deeds") [D.scr ns, D.ref i, D.int 2]) st1 (fun d_2 st1 => fnQ st (fun d st1 => ∃ m : Mem, d = m.d ∧ m.name = nm ∧ Mem.ok sn left m ∧ ∃ x, x ≤ k + cB left ∧ st1 = st.set i (.lst (zeros x))) noX
            (Out.rt (D.tup [D.str (Str.ofString "many"), D.str nm, D.tup (mr.map D.str), D.tup (wr.map D.str), d_1, .tup (nums.map .int), d_2])) st1) (tail d_1)) noX := by
        intro nums hnums tail
        refine wp_go (pick_str L.draw L.pick (by omega) (by rw [hkm]; simp) (tw_set hi _) (by omega)) ?_
        rintro _ _ ⟨⟨c, hc, rfl⟩, rfl⟩
        have hkey : (⟨#[c]⟩ : Str) = "k" ∨ (⟨#[c]⟩ : Str) = "m" := by
          rw [hkm] at hc
          simp at hc
          rcases hc with rfl | rfl
          · exact .inl (by decide +kernel)
          · exact .inr (by decide +kernel)
        generalize (⟨#[c]⟩ : Str) = key at hkey
        refine wp_go (deeds_at L (by omega) (top := 2) (tw_set (tw_set hi _) _) (by omega) (by omega)) ?_
        rintro _ _ ⟨ds, k4, rfl, d1, d2, hk4, rfl⟩
        rw [fnQ_rt (by simp) (fun i e => by cases e)]
        exact ⟨.many nm mr wr key nums ds, rfl, rfl, by simp only [Mem.ok]; exact ⟨mw, hkey, hnums, d1, d2⟩, k4, by omega, by simp⟩
      cases nr with
      | nil =>
        simp
        refine wp_mono (main [5] ⟨by simp, by simp, by simp, by simp⟩ (fun _ _ _ => False)) (fun _ _ h => wp_mono h (fun _ _ h => h) (fun _ _ z => False.elim z)) (fun _ _ z => False.elim z)
      | cons x nr =>
        have hnums : okNums (x :: nr) := ⟨by simp, n1, fun i hi => List.mem_append_left _ (n2 i hi), n3⟩
        simp
        exact wp_mono (main (x :: nr) hnums (fun _ _ _ => False)) (fun _ _ h => wp_mono h (fun _ _ h => h) (fun _ _ z => False.elim z)) (fun _ _ z => False.elim z)
    · exact wp_mono hTry (fun _ _ h => h) (fun _ _ z => False.elim z)
theorem members_of (L : LawT T) {left : Nat} (hl : left ≤ 2) (h : MemS T gc left) : MemsS T gc left := by
  intro n st ns i k sn hi hw hn hk
  obtain ⟨n, rfl⟩ : ∃ k, n = k + 1 := ⟨n - 1, by omega⟩
  have hlt := tw_lt hi
  have cb : cB left ≤ 400 := by
    have : left = 0 ∨ left = 1 ∨ left = 2 := by omega
    rcases this with rfl | rfl | rfl <;> decide
  rw [w_fn L.members]
  simp [k_members]
  refine wp_go (mixed_at L.draw L.mixed (by omega) (l := nmL.map .str) (.inl rfl) (fun m => rlt_str m _) hi hw (by decide) (by simp [nmL]; omega)) ?_
  rintro _ _ ⟨l', rfl, hp, rfl⟩
  obtain ⟨nm, rfl, hpn⟩ := perm_str hp
  have s6 : nmL.length = 4 := rfl
  simp [s6]
  refine wp_go (draw_at L.draw (by omega) (by omega) (tw_set hi _) (by omega)) ?_
  rintro _ _ ⟨j, h0, h1, rfl, rfl⟩
  have cl : (cutG (nm.map D.str) none (some j)).length ≤ 16777216 := by
    refine Nat.le_trans (show (cutG (nm.map D.str) none (some j)).length ≤ (nm.map D.str).length from ?_) ?_
    · unfold cutG; rw [List.length_take, List.length_drop]; omega
    · rw [List.length_map, hpn.length_eq, s6]; omega
  simp [cl]
  rw [cut_take _ h0, ← List.map_take]
  have hsub : (nm.take j.toNat).Nodup ∧ (∀ x ∈ nm.take j.toNat, x ∈ nmL) ∧ (nm.take j.toNat).length ≤ 4 := by
    refine ⟨(hpn.nodup_iff.mpr (by decide +kernel)).sublist (List.take_sublist _ _), fun x hx => hpn.mem_iff.mp (List.mem_of_mem_take hx), ?_⟩
    rw [List.length_take, hpn.length_eq, s6]; omega
  generalize nm.take j.toNat = nl at hsub
  obtain ⟨u1, u2, u3⟩ := hsub
  refine loop_inv (fun ds ρ st2 => ∃ (ms : List Mem) (rest : List Str) (kk : Nat) (x5 : Option D), nl = ms.map Mem.name ++ rest ∧ ds = rest.map .str ∧ oksIn sn left ms ∧ kk ≤ k + 5 + cB left * ms.length ∧ st2 = st.set i (.lst (zeros kk)) ∧ ρ = [some (.scr ns), some (.ref i), some (.lst (sn.map .str)), some (.int left), some (.tup (memsD ms)), x5]) ?_ ?_ ?_ _ _ _ ?_
  · intro ds ρ st2 _
    trivial
  · rintro d ds _ _ ⟨ms, rest, kk, x5, e1, e2, ok, hkk, rfl, rfl⟩
    cases rest with
    | nil => cases e2
    | cons name rest =>
      simp only [List.map_cons, List.cons.injEq] at e2
      obtain ⟨rfl, rfl⟩ := e2
      refine ⟨_, rfl, ?_⟩
      have hss : ms.length ≤ 3 := by rw [e1] at u3; simp at u3; omega
      have hm1 : cB left * ms.length ≤ 1200 := Nat.le_trans (Nat.mul_le_mul cb hss) (by decide)
      simp
      refine wp_go (h n _ ns i kk name sn (tw_set hi _) hw.tw (by omega) (by omega)) ?_
      rintro _ _ ⟨m, k1, rfl, rfl, mo, hk1, rfl⟩
      have hrl : ((memsD ms).length ≤ 16777215) = True := eq_true (by rw [memsD_len]; omega)
      simp [hrl]
      refine ⟨ms ++ [m], rest, by simp [e1], rfl, oksIn_app ok (by simp only [oksIn]; exact ⟨mo, trivial⟩), k1, ?_, rfl, by simp [memsD_app, memsD]⟩
      rw [List.length_append, Nat.mul_add]
      simp
      omega
  · rintro _ _ ⟨ms, rest, kk, x5, e1, e2, ok, hkk, rfl, rfl⟩
    cases rest with
    | cons _ _ => cases e2
    | nil =>
      rw [List.append_nil] at e1
      subst e1
      have hss : ms.length ≤ 4 := by simpa using u3
      have hm1 : cB left * ms.length ≤ cB left * 4 := Nat.mul_le_mul_left _ hss
      simp
      rw [fnQ_rt (by simp) (fun i e => by cases e)]
      exact ⟨ms, rfl, hss, u1, fun x hx => u2 _ (List.mem_map_of_mem hx), ok, kk, by omega, rfl⟩
  · exact ⟨[], nl, k + 5, none, rfl, rfl, by simp only [oksIn], by simp, rfl, rfl⟩
theorem mem_all (L : LawT T) : ∀ left : Nat, left ≤ 2 → MemS T gc left ∧ MemsS T gc left
  | 0, h => by
    have h1 : MemS T gc 0 := member_of L h fun _ e => by cases e
    exact ⟨h1, members_of L h h1⟩
  | left + 1, h => by
    have h0 := (mem_all L left (by omega)).2
    have h1 : MemS T gc (left + 1) := member_of L h fun l' e => by cases e; exact h0
    exact ⟨h1, members_of L h h1⟩
theorem book_at (L : LawT T) {n : Nat} (hn : 10 < n) {ns : List Int} {st : Sto} {i k : Nat} (hi : st[i]? = some (.lst (zeros k))) (hw : Wf st) (hk : k + 40000 < 1000000) :
    wp (cfN T gc n "_law_book" [.scr ns, .ref i]) st (fun d st1 => ∃ (b : Book) (k' : Nat), d = b.d ∧ b.ok ∧ k' ≤ k + 3000 ∧ st1 = st.set i (.lst (zeros k'))) noX := by
  obtain ⟨n, rfl⟩ : ∃ k, n = k + 1 := ⟨n - 1, by omega⟩
  have hlt := tw_lt hi
  rw [w_fn L.book]
  simp [k_book]
  refine wp_go (stages_at L (by omega) hi hw (by omega)) ?_
  rintro _ _ ⟨ss, k1, rfl, s1, s2, s3, s4, hk1, rfl⟩
  simp
  rw [lc_pure (fun d => [some (.scr ns), some (.ref i), some (.tup (ss.map Stage.d)), none, none, some d]) (fun d => true) (fun d => .str (dName d)) (by trivial) _ _ (fun d _ => rfl)]
  · rw [filter_stage (fun _ => true) _ (fun s => rfl)]
    rw [filt_true]
    have hsl : ((ss.map Stage.name).map D.str).length ≤ 16777216 := by simp; omega
    refine ⟨hsl, ?_⟩
    clear hsl
    obtain ⟨sn, hsn⟩ : ∃ sn, sn = ss.map Stage.name := ⟨_, rfl⟩
    rw [← hsn]
    try simp
    refine wp_go ((mem_all L 2 (by omega)).2 n _ ns i k1 sn (tw_set hi _) hw.tw (by omega) (by omega)) ?_
    rintro _ _ ⟨ms, k2, rfl, m1, m2, m3, m4, hk2, rfl⟩
    simp
    have c2 : cB 2 = 396 := rfl
    have c1 : cB 1 = 96 := rfl
    refine wp_go ((mem_all L 1 (by omega)).1 n _ ns i k2 "z" sn (tw_set hi _) hw.tw (by omega) (by omega)) ?_
    rintro _ _ ⟨m, k3, rfl, mz, mo, hk3, rfl⟩
    have hrl : ((memsD ms).length ≤ 16777215) = True := eq_true (by rw [memsD_len]; omega)
    have hrl2 : ((memsD ms).length + 1 ≤ 16777216) = True := eq_true (by rw [memsD_len]; omega)
    simp [hrl, hrl2]
    rw [fnQ_rt (by simp) (fun i e => by cases e)]
    refine ⟨⟨ss, ms ++ [m]⟩, by simp [Book.d, memsD_app, memsD], ⟨s1, s2, s3, s4, ?_, ?_, ?_, by simp; omega⟩, k3, by omega, by simp⟩
    · rw [← hsn]
      exact oksIn_app m4 (by simp only [oksIn]; exact ⟨Mem.ok_mono 1 m mo, trivial⟩)
    · rw [List.map_append, List.nodup_append]
      refine ⟨m2, by simp, fun x hx y hy e => ?_⟩
      simp at hy
      have := m3 x hx
      rw [e, hy, mz] at this
      simp [nmL] at this
    · intro x hx
      rw [List.map_append] at hx
      rcases List.mem_append.mp hx with h | h
      · exact nm_nmZ x (m3 x h)
      · simp at h
        rw [h, mz]
        simp [nmZ]
  · intro d hd P
    simp
  · intro d hd _ P
    obtain ⟨s, hs, rfl⟩ := List.mem_map.mp hd
    simp [Stage.d, dName]
end
end TB
set_option Elab.async false
set_option linter.all false
set_option maxRecDepth 100000
set_option maxHeartbeats 4000000
/-! TB23: wishes as plain data; what they choose -/
namespace TB
open PySem PySem.Spec L2
def k_p_holds : Def := ⟨"holds", ["wish", "path", "marks"], ["wish", "path", "marks"],
  (.cons (.ife (.cmp .Eq (.idx (.var 0) (.int 0)) (.str "mark"))
   (.cons (.ret (.cmp .In (.idx (.var 0) (.int 1)) (.var 2)))
   .nil)
   .nil)
  (.cons (.ife (.cmp .Eq (.idx (.var 0) (.int 0)) (.str "name"))
   (.cons (.ret (.cmp .In (.idx (.var 0) (.int 1)) (.var 1)))
   .nil)
   .nil)
  (.cons (.ife (.cmp .Eq (.idx (.var 0) (.int 0)) (.str "not"))
   (.cons (.ret (.not (.call "holds" 3 (.cons (.idx (.var 0) (.int 1)) (.cons (.var 1) (.cons (.var 2) .nil))))))
   .nil)
   .nil)
  (.cons (.ife (.cmp .Eq (.idx (.var 0) (.int 0)) (.str "and"))
   (.cons (.ret (.band (.cons (.call "holds" 3 (.cons (.idx (.var 0) (.int 1)) (.cons (.var 1) (.cons (.var 2) .nil)))) (.cons (.call "holds" 3 (.cons (.idx (.var 0) (.int 2)) (.cons (.var 1) (.cons (.var 2) .nil)))) .nil))))
   .nil)
   .nil)
  (.cons (.ret (.bor (.cons (.call "holds" 3 (.cons (.idx (.var 0) (.int 1)) (.cons (.var 1) (.cons (.var 2) .nil)))) (.cons (.call "holds" 3 (.cons (.idx (.var 0) (.int 2)) (.cons (.var 1) (.cons (.var 2) .nil)))) .nil))))
  .nil)))))⟩

def k_p_chosen : Def := ⟨"chosen", ["book", "wish"], ["book", "wish", "one"],
  (.cons (.ret (.blt .tuple (.lc false [("one", 2)] (.one 2) (.seq (.call "tries_of" 1 (.cons (.var 0) .nil))) (.some (.call "holds" 3 (.cons (.var 1) (.cons (.idx (.var 2) (.int 0)) (.cons (.idx (.var 2) (.int 2)) .nil))))) (.idx (.var 2) (.int 0)))))
  .nil)⟩

def k_p_simple : Def := ⟨"simple", ["wish"], ["wish", "inner", "word"],
  (.cons (.ife (.cmp .In (.idx (.var 0) (.int 0)) (.tup (.cons (.str "mark") (.cons (.str "name") .nil))))
   (.cons (.ret (.var 0))
   .nil)
   .nil)
  (.cons (.ife (.cmp .NotEq (.idx (.var 0) (.int 0)) (.str "not"))
   (.cons (.ret (.tup (.cons (.idx (.var 0) (.int 0)) (.cons (.call "simple" 1 (.cons (.idx (.var 0) (.int 1)) .nil)) (.cons (.call "simple" 1 (.cons (.idx (.var 0) (.int 2)) .nil)) .nil)))))
   .nil)
   .nil)
  (.cons (.asg (.one 1) (.idx (.var 0) (.int 1)))
  (.cons (.ife (.cmp .In (.idx (.var 1) (.int 0)) (.tup (.cons (.str "mark") (.cons (.str "name") .nil))))
   (.cons (.ret (.var 0))
   .nil)
   .nil)
  (.cons (.ife (.cmp .Eq (.idx (.var 1) (.int 0)) (.str "not"))
   (.cons (.ret (.call "simple" 1 (.cons (.idx (.var 1) (.int 1)) .nil)))
   .nil)
   .nil)
  (.cons (.asg (.one 2) (.idx (.dsp [.inr "and", .inr "or"] (.cons (.str "or") (.cons (.str "and") .nil))) (.idx (.var 1) (.int 0))))
  (.cons (.ret (.tup (.cons (.var 2) (.cons (.call "simple" 1 (.cons (.tup (.cons (.str "not") (.cons (.idx (.var 1) (.int 1)) .nil))) .nil)) (.cons (.call "simple" 1 (.cons (.tup (.cons (.str "not") (.cons (.idx (.var 1) (.int 2)) .nil))) .nil)) .nil)))))
  .nil)))))))⟩

def k_p_parting : Def := ⟨"parting", ["book", "one", "other"], ["book", "one", "other", "path", "group", "marks", "wants", "deeds"],
  (.cons (.for_ (.tup [3, 4, 5, 6, 7]) (.seq (.call "tries_of" 1 (.cons (.var 0) .nil)))
   (.cons (.ife (.cmp .NotEq (.call "holds" 3 (.cons (.var 1) (.cons (.var 3) (.cons (.var 5) .nil)))) (.call "holds" 3 (.cons (.var 2) (.cons (.var 3) (.cons (.var 5) .nil)))))
    (.cons (.ret (.var 3))
    .nil)
    .nil)
   .nil))
  (.cons (.ret .non)
  .nil))⟩

def k_p_try_at : Def := ⟨"try_at", ["book", "path"], ["book", "path", "found", "one"],
  (.cons (.asg (.one 2) (.lc false [("one", 3)] (.one 3) (.seq (.call "tries_of" 1 (.cons (.var 0) .nil))) (.some (.cmp .Eq (.idx (.var 3) (.int 0)) (.var 1))) (.var 3)))
  (.cons (.ife (.not (.var 2))
   (.cons .bad
   .nil)
   .nil)
  (.cons (.ret (.idx (.var 2) (.int 0)))
  .nil)))⟩

def k_p_marks_of : Def := ⟨"marks_of", ["book", "path"], ["book", "path"],
  (.cons (.ret (.idx (.call "try_at" 2 (.cons (.var 0) (.cons (.var 1) .nil))) (.int 2)))
  .nil)⟩

def k_size : Def := ⟨"_law_size", ["wish"], ["wish", "part"],
  (.cons (.ife (.cmp .In (.idx (.var 0) (.int 0)) (.tup (.cons (.str "mark") (.cons (.str "name") .nil))))
   (.cons (.ret (.int 1))
   .nil)
   .nil)
  (.cons (.ret (.blt .sum (.lc false [("part", 1)] (.one 1) (.seq (.slc false (.var 0) (.some (.int 1)) .none)) .none (.call "_law_size" 1 (.cons (.var 1) .nil)))))
  .nil))⟩

inductive Wish where
  | mark (x : Str) | name (x : Str) | not (w : Wish) | and (a b : Wish) | or (a b : Wish)
def Wish.d : Wish → D
  | .mark x => .tup [.str "mark", .str x]
  | .name x => .tup [.str "name", .str x]
  | .not w => .tup [.str "not", w.d]
  | .and a b => .tup [.str "and", a.d, b.d]
  | .or a b => .tup [.str "or", a.d, b.d]
def Wish.deep : Wish → Nat
  | .mark _ => 1
  | .name _ => 1
  | .not w => w.deep + 1
  | .and a b => max a.deep b.deep + 1
  | .or a b => max a.deep b.deep + 1
def wmL : List Str := ["x", "y", "slow", "no"]
def wnL : List Str := ["a", "b", "de", "z", "e", "q"]
def Wish.ok : Wish → Prop
  | .mark x => x ∈ wmL
  | .name x => x ∈ wnL
  | .not w => w.ok
  | .and a b => a.ok ∧ b.ok
  | .or a b => a.ok ∧ b.ok
theorem Wish.deep_pos (w : Wish) : 1 ≤ w.deep := by cases w <;> simp [Wish.deep]
theorem Wish.rlt (n : Nat) : ∀ w : Wish, w.d.rlt n = true
  | .mark x => rfl
  | .name x => rfl
  | .not w => by simp [Wish.d, D.rlt, D.rlts, Wish.rlt n w]
  | .and a b => by simp [Wish.d, D.rlt, D.rlts, Wish.rlt n a, Wish.rlt n b]
  | .or a b => by simp [Wish.d, D.rlt, D.rlts, Wish.rlt n a, Wish.rlt n b]
def subS (x p : Str) : Bool := !(Builtin.Str.occurrences p x 0 p.length 1).isEmpty
def Wish.holds (p : Str) (ms : List Str) : Wish → Bool
  | .mark x => decide (x ∈ ms)
  | .name x => subS x p
  | .not w => !w.holds p ms
  | .and a b => a.holds p ms && b.holds p ms
  | .or a b => a.holds p ms || b.holds p ms
@[simp] theorem in_str {st : Sto} (x p : Str) : inT st (.str x) (.str p) = some (subS x p) := rfl
/-- simple, and simple of not -/
def Wish.simp : Bool → Wish → Wish
  | false, .mark x => .mark x
  | true, .mark x => .not (.mark x)
  | false, .name x => .name x
  | true, .name x => .not (.name x)
  | b, .not w => w.simp (!b)
  | false, .and a b => .and (a.simp false) (b.simp false)
  | true, .and a b => .or (a.simp true) (b.simp true)
  | false, .or a b => .or (a.simp false) (b.simp false)
  | true, .or a b => .and (a.simp true) (b.simp true)
def Wish.size : Wish → Nat
  | .mark _ => 1
  | .name _ => 1
  | .not w => w.size
  | .and a b => a.size + b.size
  | .or a b => a.size + b.size
theorem Wish.simp_size : ∀ (w : Wish) (b : Bool), (w.simp b).size = w.size
  | .mark _, b => by cases b <;> rfl
  | .name _, b => by cases b <;> rfl
  | .not w, b => by simp [Wish.simp, Wish.size, Wish.simp_size w]
  | .and a c, b => by cases b <;> simp [Wish.simp, Wish.size, Wish.simp_size a, Wish.simp_size c]
  | .or a c, b => by cases b <;> simp [Wish.simp, Wish.size, Wish.simp_size a, Wish.simp_size c]
theorem Wish.simp_deep : ∀ (w : Wish) (b : Bool), (w.simp b).deep ≤ w.deep + 1
  | .mark _, b => by cases b <;> simp [Wish.simp, Wish.deep]
  | .name _, b => by cases b <;> simp [Wish.simp, Wish.deep]
  | .not w, b => by have := Wish.simp_deep w (!b); simp [Wish.simp, Wish.deep]; omega
  | .and a c, b => by have h1 := fun b => Wish.simp_deep a b; have h2 := fun b => Wish.simp_deep c b; have := h1 b; have := h2 b; cases b <;> simp [Wish.simp, Wish.deep] <;> omega
  | .or a c, b => by have h1 := fun b => Wish.simp_deep a b; have h2 := fun b => Wish.simp_deep c b; have := h1 b; have := h2 b; cases b <;> simp [Wish.simp, Wish.deep] <;> omega
theorem Wish.simp_holds (p : Str) (ms : List Str) : ∀ (w : Wish) (b : Bool), (w.simp b).holds p ms = (b != w.holds p ms)
  | .mark _, b => by cases b <;> simp [Wish.simp, Wish.holds]
  | .name _, b => by cases b <;> simp [Wish.simp, Wish.holds]
  | .not w, b => by simp only [Wish.simp, Wish.holds, Wish.simp_holds p ms w]; cases b <;> cases w.holds p ms <;> rfl
  | .and a c, b => by cases b <;> simp only [Wish.simp, Wish.holds, Wish.simp_holds p ms a, Wish.simp_holds p ms c] <;> cases a.holds p ms <;> cases c.holds p ms <;> rfl
  | .or a c, b => by cases b <;> simp only [Wish.simp, Wish.holds, Wish.simp_holds p ms a, Wish.simp_holds p ms c] <;> cases a.holds p ms <;> cases c.holds p ms <;> rfl
theorem Wish.simp_simp : ∀ (w : Wish) (b : Bool), (w.simp b).simp false = w.simp b
  | .mark _, b => by cases b <;> rfl
  | .name _, b => by cases b <;> rfl
  | .not w, b => by simp only [Wish.simp, Wish.simp_simp w]
  | .and a c, b => by cases b <;> simp only [Wish.simp, Wish.simp_simp a, Wish.simp_simp c]
  | .or a c, b => by cases b <;> simp only [Wish.simp, Wish.simp_simp a, Wish.simp_simp c]
/-! ### equal data -/
mutual
def D.fine : Nat → D → Bool
  | _, .non => true
  | _, .bl _ => true
  | _, .int _ => true
  | _, .str _ => true
  | 0, .tup _ => false
  | k + 1, .tup l => D.fines k l
  | 0, .lst _ => false
  | k + 1, .lst l => D.fines k l
  | _, _ => false
def D.fines : Nat → List D → Bool
  | _, [] => true
  | k, d :: l => D.fine k d && D.fines k l
end
mutual
theorem fine_py : ∀ (k : Nat) (d : D), d.fine k = true → ∃ p, d.py = some p ∧ p.depth ≤ k ∧ p.eqv p = true
  | k, .non, _ => ⟨_, rfl, by simp [PyData.depth], by simp [PyData.eqv]⟩
  | k, .bl _, _ => ⟨_, rfl, by simp [PyData.depth], by simp [PyData.eqv]⟩
  | k, .int _, _ => ⟨_, rfl, by simp [PyData.depth], by simp [PyData.eqv]⟩
  | k, .str _, _ => ⟨_, rfl, by simp [PyData.depth], by simp [PyData.eqv]⟩
  | 0, .tup _, h => by simp [D.fine] at h
  | k + 1, .tup l, h => by
    simp only [D.fine] at h
    obtain ⟨ps, e, h1, h2⟩ := fines_py k l h
    exact ⟨.tuple ps, by simp [D.py, e], by simp [PyData.depth]; omega, by rw [PyData.eqv]; exact h2⟩
  | 0, .lst _, h => by simp [D.fine] at h
  | k + 1, .lst l, h => by
    simp only [D.fine] at h
    obtain ⟨ps, e, h1, h2⟩ := fines_py k l h
    exact ⟨.list ps, by simp [D.py, e], by simp [PyData.depth]; omega, by rw [PyData.eqv]; exact h2⟩
  | k, .ref _, h => by simp [D.fine] at h
  | k, .fn _, h => by simp [D.fine] at h
  | k, .scr _, h => by simp [D.fine] at h
theorem fines_py : ∀ (k : Nat) (l : List D), D.fines k l = true → ∃ ps, D.pys l = some ps ∧ PyData.depthAll ps ≤ k ∧ PyData.eqvAll ps ps = true
  | k, [], _ => ⟨[], rfl, by simp [PyData.depthAll], rfl⟩
  | k, d :: l, h => by
    simp only [D.fines, Bool.and_eq_true] at h
    obtain ⟨p, e, h1, h2⟩ := fine_py k d h.1
    obtain ⟨ps, e', h1', h2'⟩ := fines_py k l h.2
    exact ⟨p :: ps, by simp [D.pys, e, e'], by simp [PyData.depthAll]; omega, by simp [PyData.eqvAll, h2, h2']⟩
end
theorem pyT_fine {st : Sto} {k : Nat} {d : D} (h : d.fine k = true) : pyT st d = d.py := by
  cases d <;> first | rfl | (simp [D.fine] at h)
theorem eqT_refl {st : Sto} {k : Nat} {d : D} (h : d.fine k = true) (hk : k ≤ 64) : eqT st d d = some true := by
  obtain ⟨p, e, h1, h2⟩ := fine_py k d h
  unfold eqT
  rw [pyT_fine h, e]
  simp [h2]
  omega
theorem fine_strs (k : Nat) : ∀ l : List Str, D.fines k (l.map .str) = true
  | [] => by simp [D.fines]
  | x :: l => by simp [D.fines, D.fine, fine_strs k l]
theorem fine_sD (k : Nat) (l : List Str) : (sD l).fine (k + 1) = true := by simp only [sD, D.fine]; exact fine_strs k l
mutual
theorem fine_mono : ∀ (k : Nat) (d : D), d.fine k = true → d.fine (k + 1) = true
  | k, .non, _ => by simp [D.fine]
  | k, .bl _, _ => by simp [D.fine]
  | k, .int _, _ => by simp [D.fine]
  | k, .str _, _ => by simp [D.fine]
  | 0, .tup _, h => by simp [D.fine] at h
  | k + 1, .tup l, h => by
    simp only [D.fine] at h
    rw [D.fine]; exact fines_mono k l h
  | 0, .lst _, h => by simp [D.fine] at h
  | k + 1, .lst l, h => by
    simp only [D.fine] at h
    rw [D.fine]; exact fines_mono k l h
  | k, .ref _, h => by simp [D.fine] at h
  | k, .fn _, h => by simp [D.fine] at h
  | k, .scr _, h => by simp [D.fine] at h
theorem fines_mono : ∀ (k : Nat) (l : List D), D.fines k l = true → D.fines (k + 1) l = true
  | k, [], _ => by simp [D.fines]
  | k, d :: l, h => by
    simp only [D.fines, Bool.and_eq_true] at h ⊢
    exact ⟨fine_mono k d h.1, fines_mono k l h.2⟩
end
theorem Wish.fine : ∀ (w : Wish) (k : Nat), w.deep ≤ k → w.d.fine k = true
  | .mark x, k, h => by
    obtain ⟨k, rfl⟩ : ∃ j, k = j + 1 := ⟨k - 1, by simp [Wish.deep] at h; omega⟩
    simp [Wish.d, D.fine, D.fines]
  | .name x, k, h => by
    obtain ⟨k, rfl⟩ : ∃ j, k = j + 1 := ⟨k - 1, by simp [Wish.deep] at h; omega⟩
    simp [Wish.d, D.fine, D.fines]
  | .not w, k, h => by
    simp only [Wish.deep] at h
    obtain ⟨k, rfl⟩ : ∃ j, k = j + 1 := ⟨k - 1, by omega⟩
    simp [Wish.d, D.fine, D.fines, Wish.fine w k (by omega)]
  | .and a b, k, h => by
    simp only [Wish.deep] at h
    obtain ⟨k, rfl⟩ : ∃ j, k = j + 1 := ⟨k - 1, by omega⟩
    simp [Wish.d, D.fine, D.fines, Wish.fine a k (by omega), Wish.fine b k (by omega)]
  | .or a b, k, h => by
    simp only [Wish.deep] at h
    obtain ⟨k, rfl⟩ : ∃ j, k = j + 1 := ⟨k - 1, by omega⟩
    simp [Wish.d, D.fine, D.fines, Wish.fine a k (by omega), Wish.fine b k (by omega)]
/-! ### texts in rows -/
theorem eqvAll_strs : ∀ a b : List Str, PyData.eqvAll (a.map .str) (b.map .str) = decide (a = b)
  | [], [] => rfl
  | [], _ :: _ => rfl
  | _ :: _, [] => rfl
  | x :: a, y :: b => by
    simp only [List.map_cons, PyData.eqvAll, PyData.eqv, eqvAll_strs a b]
    by_cases h : x = y
    · subst h; simp
    · simp [h]
theorem eqT_sD {st : Sto} (a b : List Str) : eqT st (sD a) (sD b) = some (decide (a = b)) := by
  simp only [eqT, sD, pyT, D.py, pys_str, Option.map_some, PyData.depth, depth_strs, PyData.eqv, eqvAll_strs]
  simp
section
variable {T : Tab} {gc : Str → Option D} {n : Nat} {st : Sto} {P : D → Sto → Prop} {E : Str → Sto → Prop}
structure TrT (T : Tab) : Prop where
  joined : T.get "joined" = some k_p_joined
  tries_in : T.get "tries_in" = some k_p_tries_in
  tries_of : T.get "tries_of" = some k_p_tries_of
structure TryT (T : Tab) : Prop extends TrT T where
  paths : T.get "paths" = some k_p_paths
/-- a book that the machine can hold -/
structure Book.fits (b : Book) : Prop where
  few : b.mems.length ≤ 20
  fit : fitsIn 3 b.mems
theorem tries_of_at (R : TrT T) (hn : 6 < n) {b : Book} (hb : b.fits) (P : D → Sto → Prop) (E : Str → Sto → Prop) : wp (cfN T gc n "tries_of" [b.d]) st P E = P (.lst (rowsD b.rows)) st := by
  refine wp_det ?_ P E
  obtain ⟨n, rfl⟩ : ∃ k, n = k + 1 := ⟨n - 1, by omega⟩
  rw [w_fn R.tries_of]
  simp [k_p_tries_of, Book.d]
  have e0 : ("" : Str).length = 0 := by decide +kernel
  have := tries_in_at (T := T) (gc := gc) R.joined R.tries_in 3 n st b.mems "" [] [] hb.fit hb.few (by omega) (by omega) (by rw [e0]; omega) (by simp) (by simp)
  refine wp_go this ?_
  rintro _ _ ⟨rfl, rfl⟩
  rw [fnQ_rt rfl (fun i e => by cases e)]
  exact ⟨rfl, rfl⟩
theorem rows_few {b : Book} (hb : b.fits) : b.rows.length ≤ 3200000 := by
  have h := rowsIn_len 3 b.mems "" [] [] hb.fit
  have h2 : b.mems.length * 20 ^ 4 ≤ 20 * 20 ^ 4 := Nat.mul_le_mul_right _ hb.few
  have : (20 : Nat) * 20 ^ 4 = 3200000 := by decide
  unfold Book.rows
  omega
def dPath : D → D
  | .tup (d :: _) => d
  | _ => .non
theorem row_path (r : Row) : dPath r.d = .str r.path := rfl
theorem map_path : ∀ rs : List Row, (rowsD rs).map dPath = (rs.map Row.path).map .str
  | [] => rfl
  | r :: rs => by
    have := map_path rs
    simp [rowsD] at this ⊢
    exact ⟨row_path r, this⟩
theorem paths_at (R : TryT T) (hn : 7 < n) {b : Book} (hb : b.fits) (P : D → Sto → Prop) (E : Str → Sto → Prop) : wp (cfN T gc n "paths" [b.d]) st P E = P (sD (b.rows.map Row.path)) st := by
  refine wp_det ?_ P E
  obtain ⟨n, rfl⟩ : ∃ k, n = k + 1 := ⟨n - 1, by omega⟩
  rw [w_fn R.paths]
  simp [k_p_paths, tries_of_at R.toTrT (show 6 < n by omega) hb]
  rw [lc_pure (fun d => [some b.d, some d]) (fun d => true) dPath (by trivial) _ _ (fun d _ => rfl)]
  · rw [fnQ_rt rfl (fun i e => by cases e)]
    have := rows_few hb
    rw [filt_true, map_path]
    simp [sD]
    omega
  · intro d hd P
    simp
  · intro d hd _ P
    obtain ⟨r, hr, rfl⟩ := List.mem_map.mp hd
    simp [Row.d, dPath]
end
end TB
set_option Elab.async false
set_option linter.all false
set_option maxRecDepth 100000
set_option maxHeartbeats 4000000
/-! TB24: the paths of a book are unlike -/
namespace TB
open PySem PySem.Spec L2
def cs (x : Str) : List Nat := x.cps.toList
theorem cs_app (a b : Str) : cs (a ++ b) = cs a ++ cs b := by
  show (a.cps ++ b.cps).toList = _
  simp [cs]
theorem cs_inj {a b : Str} (h : cs a = cs b) : a = b := by
  cases a; cases b
  simp [cs] at h
  simp [h]
/-- a word without strokes -/
def plain (x : Str) : Prop := ∀ c ∈ cs x, c ≠ 47 ∧ c ≠ 61
def tailOk (r : List Nat) : Prop := r = [] ∨ ∃ c t, r = c :: t ∧ (c = 47 ∨ c = 61)
theorem head_eq : ∀ {a b r s : List Nat}, (∀ c ∈ a, c ≠ 47 ∧ c ≠ 61) → (∀ c ∈ b, c ≠ 47 ∧ c ≠ 61) → tailOk r → tailOk s → a ++ r = b ++ s → a = b
  | [], [], _, _, _, _, _, _, _ => rfl
  | [], y :: b, r, s, _, hb, hr, _, e => by
    have hy := hb y List.mem_cons_self
    rcases hr with rfl | ⟨c, t, rfl, hc⟩
    · simp at e
    · simp at e; omega
  | x :: a, [], r, s, ha, _, _, hs, e => by
    have hx := ha x List.mem_cons_self
    rcases hs with rfl | ⟨c, t, rfl, hc⟩
    · simp at e
    · simp at e; omega
  | x :: a, y :: b, r, s, ha, hb, hr, hs, e => by
    simp at e
    rw [e.1, head_eq (fun c h => ha c (List.mem_cons_of_mem _ h)) (fun c h => hb c (List.mem_cons_of_mem _ h)) hr hs e.2]
def numBack (l : List Nat) : Int := match l with
  | 45 :: t => -((t.foldl (fun a c => a * 10 + (c - 48)) 0 : Nat) : Int)
  | t => ((t.foldl (fun a c => a * 10 + (c - 48)) 0 : Nat) : Int)
theorem numBack_all : ∀ n : Fin 201, numBack (cs (numStr ((n.val : Int) - 100))) = (n.val : Int) - 100 := by decide +kernel
theorem numStr_inj {i j : Int} (hi : fitI i) (hj : fitI j) (h : numStr i = numStr j) : i = j := by
  have key : ∀ {i : Int}, fitI i → numBack (cs (numStr i)) = i := by
    intro i h
    have h1 := h.1
    have h2 := h.2
    have := numBack_all ⟨(i + 100).toNat, by omega⟩
    have e : (((i + 100).toNat : Nat) : Int) - 100 = i := by omega
    simp only [e] at this
    exact this
  rw [← key hi, ← key hj, h]
mutual
def Mem.pl : Mem → Prop
  | .try_ n _ _ _ => plain n
  | .many n _ _ _ ns _ => plain n ∧ ns.Nodup ∧ ∀ i ∈ ns, fitI i
  | .group n _ _ ms => plain n ∧ (ms.map Mem.name).Nodup ∧ plIn ms
def plIn : List Mem → Prop
  | [] => True
  | m :: ms => m.pl ∧ plIn ms
end
theorem pl_name : ∀ {m : Mem}, m.pl → plain m.name
  | .try_ _ _ _ _, h => by simp only [Mem.pl] at h; exact h
  | .many _ _ _ _ _ _, h => by simp only [Mem.pl] at h; exact h.1
  | .group _ _ _ _, h => by simp only [Mem.pl] at h; exact h.1
theorem plIn_mem : ∀ {ms : List Mem}, plIn ms → ∀ m ∈ ms, m.pl
  | [], _, _, h => by cases h
  | x :: ms, h, m, hm => by
    simp only [plIn] at h
    rcases List.mem_cons.mp hm with rfl | hm
    · exact h.1
    · exact plIn_mem h.2 m hm
theorem s_stroke : cs ("/" : Str) = [47] := by decide +kernel
theorem s_eq : cs ("=" : Str) = [61] := by decide +kernel
mutual
/-- what a path begins with -/
theorem Mem.rows_head : ∀ (m : Mem) (a : Str) (mk ws : List Str), ∀ r ∈ m.rows a mk ws, ∃ t, tailOk t ∧ cs r.path = cs a ++ (cs m.name ++ t)
  | .try_ n m w ds, a, mk, ws, r, h => by
    simp only [Mem.rows, List.mem_singleton] at h
    subst h
    exact ⟨[], .inl rfl, by simp [cs_app, Mem.name]⟩
  | .many n m w k ns ds, a, mk, ws, r, h => by
    simp only [Mem.rows, List.mem_map] at h
    obtain ⟨i, _, rfl⟩ := h
    exact ⟨61 :: cs (numStr i), .inr ⟨61, _, rfl, .inr rfl⟩, by simp [cs_app, Mem.name, s_eq]⟩
  | .group n m w ms, a, mk, ws, r, h => by
    simp only [Mem.rows] at h
    obtain ⟨t, e⟩ := rowsIn_head ms _ _ _ r h
    exact ⟨47 :: t, .inr ⟨47, _, rfl, .inl rfl⟩, by rw [e]; simp [cs_app, Mem.name, s_stroke]⟩
theorem rowsIn_head : ∀ (ms : List Mem) (a : Str) (mk ws : List Str), ∀ r ∈ rowsIn a mk ws ms, ∃ t, cs r.path = cs a ++ t
  | [], a, mk, ws, r, h => by simp [rowsIn] at h
  | m :: ms, a, mk, ws, r, h => by
    simp only [rowsIn, List.mem_append] at h
    rcases h with h | h
    · obtain ⟨t, _, e⟩ := Mem.rows_head m a mk ws r h
      exact ⟨_, e⟩
    · exact rowsIn_head ms a mk ws r h
end
theorem rowsIn_of : ∀ (ms : List Mem) (a : Str) (mk ws : List Str), ∀ r ∈ rowsIn a mk ws ms, ∃ m ∈ ms, r ∈ m.rows a mk ws
  | [], a, mk, ws, r, h => by simp [rowsIn] at h
  | m :: ms, a, mk, ws, r, h => by
    simp only [rowsIn, List.mem_append] at h
    rcases h with h | h
    · exact ⟨m, List.mem_cons_self, h⟩
    · obtain ⟨x, hx, hr⟩ := rowsIn_of ms a mk ws r h
      exact ⟨x, List.mem_cons_of_mem _ hx, hr⟩
mutual
theorem Mem.rows_nodup : ∀ (m : Mem) (a : Str) (mk ws : List Str), m.pl → ((m.rows a mk ws).map Row.path).Nodup
  | .try_ n m w ds, a, mk, ws, h => by simp [Mem.rows]
  | .many n m w k ns ds, a, mk, ws, h => by
    simp only [Mem.pl] at h
    simp only [Mem.rows, List.map_map]
    rw [List.nodup_iff_pairwise_ne] at h ⊢
    obtain ⟨_, h2, h3⟩ := h
    rw [List.pairwise_map]
    refine (List.Pairwise.and_mem.mp h2).imp fun {x y} hxy e => ?_
    obtain ⟨hx, hy, hne⟩ := hxy
    refine hne (numStr_inj (h3 x hx) (h3 y hy) (cs_inj ?_))
    have e' := congrArg cs e
    simpa [cs_app, Function.comp] using e'
  | .group n m w ms, a, mk, ws, h => by
    simp only [Mem.pl] at h
    simp only [Mem.rows]
    exact rowsIn_nodup ms _ _ _ h.2.1 h.2.2
theorem rowsIn_nodup : ∀ (ms : List Mem) (a : Str) (mk ws : List Str), (ms.map Mem.name).Nodup → plIn ms → ((rowsIn a mk ws ms).map Row.path).Nodup
  | [], a, mk, ws, _, _ => by simp [rowsIn]
  | m :: ms, a, mk, ws, hn, hp => by
    simp only [plIn] at hp
    simp only [List.map_cons, List.nodup_cons] at hn
    simp only [rowsIn, List.map_append]
    rw [List.nodup_append]
    refine ⟨Mem.rows_nodup m a mk ws hp.1, rowsIn_nodup ms a mk ws hn.2 hp.2, ?_⟩
    intro x hx y hy e
    subst e
    obtain ⟨r, hr, e1⟩ := List.mem_map.mp hx
    obtain ⟨r', hr', e2⟩ := List.mem_map.mp hy
    obtain ⟨m', hm', hr''⟩ := rowsIn_of ms a mk ws r' hr'
    obtain ⟨t, ht, p1⟩ := Mem.rows_head m a mk ws r hr
    obtain ⟨t', ht', p2⟩ := Mem.rows_head m' a mk ws r' hr''
    rw [e1] at p1
    rw [e2] at p2
    have := List.append_cancel_left (p1.symm.trans p2)
    have := head_eq (pl_name hp.1) (pl_name (plIn_mem hp.2 m' hm')) ht ht' this
    exact hn.1 (cs_inj this ▸ List.mem_map_of_mem hm')
end
/-- rows with unlike paths -/
theorem row_at {rs : List Row} (h : (rs.map Row.path).Nodup) : ∀ {r r' : Row}, r ∈ rs → r' ∈ rs → r.path = r'.path → r = r' := by
  induction rs with
  | nil => intro r r' h; cases h
  | cons x rs ih =>
    simp only [List.map_cons, List.nodup_cons] at h
    intro r r' hr hr' e
    rcases List.mem_cons.mp hr with e1 | hr2
    · rcases List.mem_cons.mp hr' with e2 | hr3
      · rw [e1, e2]
      · exact absurd (by rw [← e1, e]; exact List.mem_map_of_mem hr3) h.1
    · rcases List.mem_cons.mp hr' with e2 | hr3
      · exact absurd (by rw [← e2, ← e]; exact List.mem_map_of_mem hr2) h.1
      · exact ih h.2 hr2 hr3 e
theorem mem_filter_path {rs : List Row} (h : (rs.map Row.path).Nodup) (q : Row → Bool) {r : Row} (hr : r ∈ rs) : r.path ∈ (rs.filter q).map Row.path ↔ q r = true := by
  constructor
  · intro hm
    obtain ⟨r', hr', e⟩ := List.mem_map.mp hm
    rw [List.mem_filter] at hr'
    rw [← row_at h hr'.1 hr e]
    exact hr'.2
  · intro hq
    exact List.mem_map_of_mem (List.mem_filter.mpr ⟨hr, hq⟩)
/-! ### good books -/
theorem plain_nm : ∀ x ∈ nmZ, plain x := by
  intro x hx
  have key : ∀ x ∈ nmZ, (cs x).all (fun c => c != 47 && c != 61) = true := by decide +kernel
  intro c hc
  have := List.all_eq_true.mp (key x hx) c hc
  simpa using this
theorem nums_fit {ns : List Int} (h : okNums ns) : ∀ i ∈ ns, fitI i := by
  intro i hi
  have := h.2.2.1 i hi
  simp [nuL] at this
  unfold fitI
  omega
mutual
theorem Mem.ok_pl {sn : List Str} : ∀ (k : Nat) (m : Mem), m.ok sn k → m.name ∈ nmZ → m.pl
  | _, .try_ n _ _ _, h, hn => by simp only [Mem.pl]; exact plain_nm _ hn
  | _, .many n _ _ _ ns _, h, hn => by
    simp only [Mem.ok] at h
    simp only [Mem.pl]
    exact ⟨plain_nm _ hn, h.2.2.1.2.1, nums_fit h.2.2.1⟩
  | 0, .group _ _ _ _, h, _ => by simp only [Mem.ok] at h
  | k + 1, .group n _ _ ms, h, hn => by
    simp only [Mem.ok] at h
    simp only [Mem.pl]
    exact ⟨plain_nm _ hn, h.2.2.1, oksIn_pl k ms h.2.2.2.2 fun x hx => nm_nmZ _ (h.2.2.2.1 x hx)⟩
theorem oksIn_pl {sn : List Str} : ∀ (k : Nat) (ms : List Mem), oksIn sn k ms → (∀ x ∈ ms.map Mem.name, x ∈ nmZ) → plIn ms
  | _, [], _, _ => by simp only [plIn]
  | k, m :: ms, h, hn => by
    simp only [oksIn] at h
    simp only [plIn]
    exact ⟨Mem.ok_pl k m h.1 (hn _ (by simp)), oksIn_pl k ms h.2 fun x hx => hn x (by simp at hx ⊢; exact .inr hx)⟩
end
theorem nm_len : ∀ x ∈ nmZ, x.length ≤ 20 := by decide +kernel
mutual
theorem Mem.ok_fit {sn : List Str} : ∀ (k : Nat) (m : Mem), m.ok sn k → m.name ∈ nmZ → m.fit (k + 1)
  | _, .try_ n _ _ _, h, hn => by
    simp only [Mem.ok] at h
    have h1 := nm_len _ hn
    have h2 := h.1.m3
    have h3 := h.1.w3
    have h4 := h.2.1
    simp only [Mem.name] at h1
    simp only [Mem.fit]
    omega
  | _, .many n _ _ _ ns _, h, hn => by
    simp only [Mem.ok] at h
    have h1 := nm_len _ hn
    have h2 := h.1.m3
    have h3 := h.1.w3
    have h4 := h.2.2.2.1
    have h5 := h.2.2.1.2.2.2
    simp only [Mem.name] at h1
    simp only [Mem.fit]
    exact ⟨by omega, by omega, by omega, by omega, by omega, nums_fit h.2.2.1⟩
  | 0, .group _ _ _ _, h, _ => by simp only [Mem.ok] at h
  | k + 1, .group n _ _ ms, h, hn => by
    simp only [Mem.ok] at h
    have h1 := nm_len _ hn
    have h2 := h.1.m3
    have h3 := h.1.w3
    simp only [Mem.name] at h1
    simp only [Mem.fit]
    exact ⟨by omega, by omega, by omega, by omega, oksIn_fit k ms h.2.2.2.2 fun x hx => nm_nmZ _ (h.2.2.2.1 x hx)⟩
theorem oksIn_fit {sn : List Str} : ∀ (k : Nat) (ms : List Mem), oksIn sn k ms → (∀ x ∈ ms.map Mem.name, x ∈ nmZ) → fitsIn (k + 1) ms
  | _, [], _, _ => by simp only [fitsIn]
  | k, m :: ms, h, hn => by
    simp only [oksIn] at h
    simp only [fitsIn]
    exact ⟨Mem.ok_fit k m h.1 (hn _ (by simp)), oksIn_fit k ms h.2 fun x hx => hn x (by simp at hx ⊢; exact .inr hx)⟩
end
theorem Book.ok.fits {b : Book} (h : b.ok) : b.fits := ⟨by have := h.m4; omega, oksIn_fit 2 b.mems h.m1 h.m3⟩
theorem Book.ok.nodup {b : Book} (h : b.ok) : (b.rows.map Row.path).Nodup := rowsIn_nodup b.mems "" [] [] h.m2 (oksIn_pl 2 b.mems h.m1 h.m3)
end TB
set_option Elab.async false
set_option linter.all false
set_option maxRecDepth 100000
set_option maxHeartbeats 4000000
/-! TB25: wishes drawn; holds, chosen, simple, parting, try_at -/
namespace TB
open PySem PySem.Spec L2
section
variable {T : Tab} {gc : Str → Option D} {n : Nat} {st : Sto} {P : D → Sto → Prop} {E : Str → Sto → Prop}
theorem wishW_at (hT : T.get "_law_draw" = some k_draw) (hP : T.get "_law_pick" = some k_pick) (hW : T.get "_law_wish" = some k_wish) {ns : List Int} {i : Nat} : ∀ (left n k : Nat) (st : Sto), left + 3 < n → k + wc left < 1000000 → st[i]? = some (.lst (zeros k)) →
    wp (cfN T gc n "_law_wish" [.scr ns, .ref i, .int left]) st (fun d st1 => ∃ (w : Wish) (k' : Nat), d = w.d ∧ w.deep ≤ left + 1 ∧ w.ok ∧ k' ≤ k + wc left ∧ st1 = st.set i (.lst (zeros k'))) noX := by
  intro left
  induction left with
  | zero =>
    intro n k st hn hk hi
    obtain ⟨n, rfl⟩ : ∃ k, n = k + 1 := ⟨n - 1, by omega⟩
    have hw : wc 0 = 3 := rfl
    rw [w_fn hW]
    simp [k_wish]
    refine wp_go (draw_at hT (by omega) (by omega) hi (by omega)) ?_
    rintro _ _ ⟨j, h0, h1, rfl, rfl⟩
    refine wp_go (draw_at hT (by omega) (by omega) (tw_set hi _) (by omega)) ?_
    rintro _ _ ⟨j2, h0, h1, rfl, rfl⟩
    simp
    split
    · refine wp_go (pick_at hT hP (by omega) (by simp) (tw_set hi _) (by omega) (by simp)) ?_
      rintro d _ ⟨hd, rfl⟩
      rw [fnQ_rt (by simp) (fun i e => by cases e)]
      simp only [List.mem_cons, List.not_mem_nil, or_false] at hd
      rcases hd with rfl | rfl | rfl | rfl <;> exact ⟨.mark _, rfl, by simp [Wish.deep], by simp [Wish.ok, wmL], k + 1 + 1 + 1, by omega, by simp⟩
    · refine wp_go (pick_at hT hP (by omega) (by simp) (tw_set hi _) (by omega) (by simp)) ?_
      rintro d _ ⟨hd, rfl⟩
      rw [fnQ_rt (by simp) (fun i e => by cases e)]
      simp only [List.mem_cons, List.not_mem_nil, or_false] at hd
      rcases hd with rfl | rfl | rfl | rfl | rfl | rfl <;> exact ⟨.name _, rfl, by simp [Wish.deep], by simp [Wish.ok, wnL], k + 1 + 1 + 1, by omega, by simp⟩
  | succ left ih =>
    intro n k st hn hk hi
    obtain ⟨n, rfl⟩ : ∃ k, n = k + 1 := ⟨n - 1, by omega⟩
    have hw : wc (left + 1) = 3 + 2 * wc left := rfl
    have := wc_ge left
    rw [w_fn hW]
    simp [k_wish]
    refine wp_go (draw_at hT (by omega) (by omega) hi (by omega)) ?_
    rintro _ _ ⟨j, h0, h1, rfl, rfl⟩
    simp
    split
    · refine wp_go (draw_at hT (by omega) (by omega) (tw_set hi _) (by omega)) ?_
      rintro _ _ ⟨j2, h0, h1, rfl, rfl⟩
      simp
      split
      · refine wp_go (pick_at hT hP (by omega) (by simp) (tw_set hi _) (by omega) (by simp)) ?_
        rintro d _ ⟨hd, rfl⟩
        rw [fnQ_rt (by simp) (fun i e => by cases e)]
        simp only [List.mem_cons, List.not_mem_nil, or_false] at hd
        rcases hd with rfl | rfl | rfl | rfl <;> exact ⟨.mark _, rfl, by simp [Wish.deep], by simp [Wish.ok, wmL], k + 1 + 1 + 1, by omega, by simp⟩
      · refine wp_go (pick_at hT hP (by omega) (by simp) (tw_set hi _) (by omega) (by simp)) ?_
        rintro d _ ⟨hd, rfl⟩
        rw [fnQ_rt (by simp) (fun i e => by cases e)]
        simp only [List.mem_cons, List.not_mem_nil, or_false] at hd
        rcases hd with rfl | rfl | rfl | rfl | rfl | rfl <;> exact ⟨.name _, rfl, by simp [Wish.deep], by simp [Wish.ok, wnL], k + 1 + 1 + 1, by omega, by simp⟩
    · split
      · refine wp_go (draw_at hT (by omega) (by omega) (tw_set hi _) (by omega)) ?_
        rintro _ _ ⟨j2, h0, h1, rfl, rfl⟩
        simp
        split
        · refine wp_go (pick_at hT hP (by omega) (by simp) (tw_set hi _) (by omega) (by simp)) ?_
          rintro d _ ⟨hd, rfl⟩
          rw [fnQ_rt (by simp) (fun i e => by cases e)]
          simp only [List.mem_cons, List.not_mem_nil, or_false] at hd
          rcases hd with rfl | rfl | rfl | rfl <;> exact ⟨.mark _, rfl, by simp [Wish.deep], by simp [Wish.ok, wmL], k + 1 + 1 + 1, by omega, by simp⟩
        · refine wp_go (pick_at hT hP (by omega) (by simp) (tw_set hi _) (by omega) (by simp)) ?_
          rintro d _ ⟨hd, rfl⟩
          rw [fnQ_rt (by simp) (fun i e => by cases e)]
          simp only [List.mem_cons, List.not_mem_nil, or_false] at hd
          rcases hd with rfl | rfl | rfl | rfl | rfl | rfl <;> exact ⟨.name _, rfl, by simp [Wish.deep], by simp [Wish.ok, wnL], k + 1 + 1 + 1, by omega, by simp⟩
      · split
        · refine wp_go (ih n _ _ (by omega) (by omega) (tw_set hi _)) ?_
          rintro _ _ ⟨w, k1, rfl, hd, hok, hk1, rfl⟩
          rw [fnQ_rt (by simp) (fun i e => by cases e)]
          exact ⟨.not w, rfl, by simp only [Wish.deep]; omega, hok, k1, by omega, by simp⟩
        · refine wp_go (ih n _ _ (by omega) (by omega) (tw_set hi _)) ?_
          rintro _ _ ⟨w, k1, rfl, hd, hok, hk1, rfl⟩
          simp
          refine wp_go (pick_at hT hP (by omega) (by simp) (tw_set hi _) (by omega) (by simp)) ?_
          rintro d1 _ ⟨hd1, rfl⟩
          simp
          refine wp_go (ih n _ _ (by omega) (by omega) (tw_set hi _)) ?_
          rintro _ _ ⟨w2, k2, rfl, hd2, hok2, hk2, rfl⟩
          rw [fnQ_rt (by simp) (fun i e => by cases e)]
          simp only [List.mem_cons, List.not_mem_nil, or_false] at hd1
          rcases hd1 with rfl | rfl
          · exact ⟨.and w w2, rfl, by simp only [Wish.deep]; omega, ⟨hok, hok2⟩, k2, by omega, by simp⟩
          · exact ⟨.or w w2, rfl, by simp only [Wish.deep]; omega, ⟨hok, hok2⟩, k2, by omega, by simp⟩

theorem Wish.noref (w : Wish) (i : Nat) : w.d ≠ .ref i := by cases w <;> (intro e; cases e)
structure ChT (T : Tab) : Prop extends TrT T where
  holds : T.get "holds" = some k_p_holds
  chosen : T.get "chosen" = some k_p_chosen
  simple : T.get "simple" = some k_p_simple
  parting : T.get "parting" = some k_p_parting
theorem holds_at (hH : T.get "holds" = some k_p_holds) : ∀ (w : Wish) (n : Nat) (st : Sto) (p : Str) (ms : List Str) (P : D → Sto → Prop) (E : Str → Sto → Prop), w.deep < n → wp (cfN T gc n "holds" [w.d, .str p, sD ms]) st P E = P (.bl (w.holds p ms)) st
  | .mark x, n, st, p, ms, P, E, h => by
    obtain ⟨n, rfl⟩ : ∃ k, n = k + 1 := ⟨n - 1, by omega⟩
    rw [w_fn hH]
    simp [k_p_holds, Wish.d, Wish.holds]
    try rw [fnQ_rt rfl (fun i e => by cases e)]
  | .name x, n, st, p, ms, P, E, h => by
    obtain ⟨n, rfl⟩ : ∃ k, n = k + 1 := ⟨n - 1, by omega⟩
    rw [w_fn hH]
    simp [k_p_holds, Wish.d, Wish.holds]
    try rw [fnQ_rt rfl (fun i e => by cases e)]
  | .not w, n, st, p, ms, P, E, h => by
    simp only [Wish.deep] at h
    obtain ⟨n, rfl⟩ : ∃ k, n = k + 1 := ⟨n - 1, by omega⟩
    have ha := fun st P E => holds_at hH w n st p ms P E (by omega)
    rw [w_fn hH]
    simp [k_p_holds, Wish.d, Wish.holds, ha]
    try rw [fnQ_rt rfl (fun i e => by cases e)]
  | .and a b, n, st, p, ms, P, E, h => by
    simp only [Wish.deep] at h
    obtain ⟨n, rfl⟩ : ∃ k, n = k + 1 := ⟨n - 1, by omega⟩
    have ha := fun st P E => holds_at hH a n st p ms P E (by omega)
    have hb := fun st P E => holds_at hH b n st p ms P E (by omega)
    rw [w_fn hH]
    simp [k_p_holds, Wish.d, Wish.holds, ha, hb]
    cases a.holds p ms <;> simp <;> rw [fnQ_rt rfl (fun i e => by cases e)]
  | .or a b, n, st, p, ms, P, E, h => by
    simp only [Wish.deep] at h
    obtain ⟨n, rfl⟩ : ∃ k, n = k + 1 := ⟨n - 1, by omega⟩
    have ha := fun st P E => holds_at hH a n st p ms P E (by omega)
    have hb := fun st P E => holds_at hH b n st p ms P E (by omega)
    rw [w_fn hH]
    simp [k_p_holds, Wish.d, Wish.holds, ha, hb]
    cases a.holds p ms <;> simp <;> rw [fnQ_rt rfl (fun i e => by cases e)]
/-! ### chosen -/
def Wish.ch (w : Wish) (rs : List Row) : List Str := (rs.filter fun r => w.holds r.path r.marks).map Row.path
theorem strs_back (l : List Str) : (l.map D.str).map strOf = l := by
  rw [List.map_map]
  exact (List.map_congr_left fun x _ => rfl).trans (List.map_id l)
def dHold (w : Wish) : D → Bool
  | .tup [.str p, _, .tup ms, _, _] => w.holds p (ms.map strOf)
  | _ => false
theorem dHold_row (w : Wish) (r : Row) : dHold w r.d = w.holds r.path r.marks := by
  show w.holds r.path ((r.marks.map D.str).map strOf) = _
  rw [strs_back]
theorem filter_rows (q : Row → Bool) (c : D → Bool) (h : ∀ r : Row, c r.d = q r) : ∀ rs : List Row, (rowsD rs).filter c = rowsD (rs.filter q)
  | [] => rfl
  | r :: rs => by
    have ih := filter_rows q c h rs
    unfold rowsD at ih ⊢
    rw [List.map_cons]
    by_cases e : q r = true
    · rw [List.filter_cons_of_pos (by rw [h]; exact e), List.filter_cons_of_pos e, List.map_cons, ih]
    · rw [List.filter_cons_of_neg (by rw [h]; exact e), List.filter_cons_of_neg e, ih]
theorem ix_row0 {st : Sto} (r : Row) : idxT st r.d (.int 0) = some (.str r.path) := by simp [Row.d]
theorem ix_row1 {st : Sto} (r : Row) : idxT st r.d (.int 1) = some (.str r.group) := by simp [Row.d]
theorem ix_row2 {st : Sto} (r : Row) : idxT st r.d (.int 2) = some (sD r.marks) := by simp [Row.d]
theorem ix_row3 {st : Sto} (r : Row) : idxT st r.d (.int 3) = some (sD r.wants) := by simp [Row.d, at3]
theorem ix_row4 {st : Sto} (r : Row) : idxT st r.d (.int 4) = some (dsD r.deeds) := by simp [Row.d, at4]
theorem chosen_at (C : ChT T) (hn : 7 < n) {b : Book} (hb : b.fits) {w : Wish} (hw : w.deep + 1 < n) (P : D → Sto → Prop) (E : Str → Sto → Prop) : wp (cfN T gc n "chosen" [b.d, w.d]) st P E = P (sD (w.ch b.rows)) st := by
  refine wp_det ?_ P E
  obtain ⟨n, rfl⟩ : ∃ k, n = k + 1 := ⟨n - 1, by omega⟩
  rw [w_fn C.chosen]
  simp [k_p_chosen, tries_of_at C.toTrT (show 6 < n by omega) hb]
  rw [lc_pure (fun d => [some b.d, some w.d, some d]) (dHold w) dPath (by trivial) _ _ (fun d _ => rfl)]
  · rw [fnQ_rt rfl (fun i e => by cases e)]
    have := rows_few hb
    have h2 := List.length_filter_le (fun r : Row => w.holds r.path r.marks) b.rows
    rw [filter_rows (fun r => w.holds r.path r.marks) _ (dHold_row w), map_path]
    simp [sD, Wish.ch]
    omega
  · intro d hd P
    obtain ⟨r, hr, rfl⟩ := List.mem_map.mp hd
    simp [ix_row0, ix_row2, dHold_row, fun st P E => holds_at (gc := gc) C.holds w n st r.path r.marks P E (by omega)]
  · intro d hd _ P
    obtain ⟨r, hr, rfl⟩ := List.mem_map.mp hd
    simp [ix_row0, row_path]
/-! ### simple -/
theorem simple_at (hS : T.get "simple" = some k_p_simple) : ∀ (w : Wish) (n : Nat) (st : Sto), (w.deep < n → wp (cfN T gc n "simple" [w.d]) st (fun d st1 => d = (w.simp false).d ∧ st1 = st) noX) ∧ (w.deep + 1 < n → wp (cfN T gc n "simple" [(Wish.not w).d]) st (fun d st1 => d = (w.simp true).d ∧ st1 = st) noX)
  | .mark x, n, st => by
    refine ⟨fun h => ?_, fun h => ?_⟩
    · obtain ⟨n, rfl⟩ : ∃ k, n = k + 1 := ⟨n - 1, by omega⟩
      rw [w_fn hS]
      simp [k_p_simple, Wish.d, Wish.simp]
      rw [fnQ_rt rfl (fun i e => by cases e)]
      exact ⟨rfl, rfl⟩
    · obtain ⟨n, rfl⟩ : ∃ k, n = k + 1 := ⟨n - 1, by omega⟩
      rw [w_fn hS]
      simp [k_p_simple, Wish.d, Wish.simp]
      rw [fnQ_rt rfl (fun i e => by cases e)]
      exact ⟨rfl, rfl⟩
  | .name x, n, st => by
    refine ⟨fun h => ?_, fun h => ?_⟩
    · obtain ⟨n, rfl⟩ : ∃ k, n = k + 1 := ⟨n - 1, by omega⟩
      rw [w_fn hS]
      simp [k_p_simple, Wish.d, Wish.simp]
      rw [fnQ_rt rfl (fun i e => by cases e)]
      exact ⟨rfl, rfl⟩
    · obtain ⟨n, rfl⟩ : ∃ k, n = k + 1 := ⟨n - 1, by omega⟩
      rw [w_fn hS]
      simp [k_p_simple, Wish.d, Wish.simp]
      rw [fnQ_rt rfl (fun i e => by cases e)]
      exact ⟨rfl, rfl⟩
  | .not w, n, st => by
    refine ⟨fun h => ?_, fun h => ?_⟩
    · simp only [Wish.deep] at h
      exact (simple_at hS w n st).2 (by omega)
    · simp only [Wish.deep] at h
      obtain ⟨n, rfl⟩ : ∃ k, n = k + 1 := ⟨n - 1, by omega⟩
      rw [w_fn hS]
      simp [k_p_simple, Wish.d, Wish.simp]
      refine wp_go ((simple_at hS w n st).1 (by omega)) ?_
      rintro _ _ ⟨rfl, rfl⟩
      rw [fnQ_rt rfl (fun i e => absurd e (Wish.noref _ i))]
      exact ⟨rfl, rfl⟩
  | .and a b, n, st => by
    refine ⟨fun h => ?_, fun h => ?_⟩
    · simp only [Wish.deep] at h
      obtain ⟨n, rfl⟩ : ∃ k, n = k + 1 := ⟨n - 1, by omega⟩
      rw [w_fn hS]
      simp [k_p_simple, Wish.d, Wish.simp]
      refine wp_go ((simple_at hS a n st).1 (by omega)) ?_
      rintro _ _ ⟨rfl, rfl⟩
      try simp
      refine wp_go ((simple_at hS b n _).1 (by omega)) ?_
      rintro _ _ ⟨rfl, rfl⟩
      rw [fnQ_rt rfl (fun i e => by cases e)]
      exact ⟨rfl, rfl⟩
    · simp only [Wish.deep] at h
      obtain ⟨n, rfl⟩ : ∃ k, n = k + 1 := ⟨n - 1, by omega⟩
      rw [w_fn hS]
      simp [k_p_simple, Wish.d, Wish.simp, mergeG, putG, valG]
      refine wp_go ((simple_at hS a n _).2 (by omega)) ?_
      rintro _ _ ⟨rfl, rfl⟩
      try simp
      refine wp_go ((simple_at hS b n _).2 (by omega)) ?_
      rintro _ _ ⟨rfl, rfl⟩
      rw [fnQ_drop (fun i e => by cases e) (by simp [D.rlt, D.rlts, Wish.rlt]) (.inl (by simp))]
      simp
  | .or a b, n, st => by
    refine ⟨fun h => ?_, fun h => ?_⟩
    · simp only [Wish.deep] at h
      obtain ⟨n, rfl⟩ : ∃ k, n = k + 1 := ⟨n - 1, by omega⟩
      rw [w_fn hS]
      simp [k_p_simple, Wish.d, Wish.simp]
      refine wp_go ((simple_at hS a n st).1 (by omega)) ?_
      rintro _ _ ⟨rfl, rfl⟩
      try simp
      refine wp_go ((simple_at hS b n _).1 (by omega)) ?_
      rintro _ _ ⟨rfl, rfl⟩
      rw [fnQ_rt rfl (fun i e => by cases e)]
      exact ⟨rfl, rfl⟩
    · simp only [Wish.deep] at h
      obtain ⟨n, rfl⟩ : ∃ k, n = k + 1 := ⟨n - 1, by omega⟩
      rw [w_fn hS]
      simp [k_p_simple, Wish.d, Wish.simp, mergeG, putG, valG]
      refine wp_go ((simple_at hS a n _).2 (by omega)) ?_
      rintro _ _ ⟨rfl, rfl⟩
      try simp
      refine wp_go ((simple_at hS b n _).2 (by omega)) ?_
      rintro _ _ ⟨rfl, rfl⟩
      rw [fnQ_drop (fun i e => by cases e) (by simp [D.rlt, D.rlts, Wish.rlt]) (.inl (by simp))]
      simp
theorem simple_eq (hS : T.get "simple" = some k_p_simple) (w : Wish) (hw : w.deep < n) (P : D → Sto → Prop) (E : Str → Sto → Prop) : wp (cfN T gc n "simple" [w.d]) st P E = P (w.simp false).d st := wp_det ((simple_at hS w n st).1 hw) P E
/-! ### parting -/
def pathO : Option Row → D
  | none => .non
  | some r => .str r.path
def parts (v w : Wish) (r : Row) : Bool := v.holds r.path r.marks != w.holds r.path r.marks
theorem parting_at (C : ChT T) (hn : 7 < n) {b : Book} (hb : b.fits) {v w : Wish} (hv : v.deep + 1 < n) (hw : w.deep + 1 < n) (P : D → Sto → Prop) (E : Str → Sto → Prop) : wp (cfN T gc n "parting" [b.d, v.d, w.d]) st P E = P (pathO (b.rows.find? (parts v w))) st := by
  refine wp_det ?_ P E
  obtain ⟨n, rfl⟩ : ∃ k, n = k + 1 := ⟨n - 1, by omega⟩
  rw [w_fn C.parting]
  simp [k_p_parting, tries_of_at C.toTrT (show 6 < n by omega) hb]
  refine loop_inv (fun ds ρ st2 => ∃ (pre post : List Row) (x3 x4 x5 x6 x7 : Option D), b.rows = pre ++ post ∧ ds = rowsD post ∧ (∀ r ∈ pre, parts v w r = false) ∧ st2 = st ∧ ρ = [some b.d, some v.d, some w.d, x3, x4, x5, x6, x7]) ?_ ?_ ?_ _ _ _ ?_
  · intro ds ρ st2 _
    trivial
  · rintro d ds _ _ ⟨pre, post, x3, x4, x5, x6, x7, e1, e2, hp, rfl, rfl⟩
    cases post with
    | nil => cases e2
    | cons r post =>
      simp only [rowsD, List.map_cons, List.cons.injEq] at e2
      obtain ⟨rfl, rfl⟩ := e2
      refine ⟨_, rfl, ?_⟩
      have h1 := fun st P E => holds_at (gc := gc) C.holds v n st r.path r.marks P E (by omega)
      have h2 := fun st P E => holds_at (gc := gc) C.holds w n st r.path r.marks P E (by omega)
      simp [setD, h1, h2]
      by_cases hr : parts v w r = true
      · have hne : ¬ v.holds r.path r.marks = w.holds r.path r.marks := by simpa [parts] using hr
        simp [hne]
        rw [fnQ_rt rfl (fun i e => by cases e)]
        refine ⟨?_, rfl⟩
        rw [e1, List.find?_append, List.find?_eq_none.mpr (fun x hx => by rw [hp x hx]; simp), List.find?_cons_of_pos hr]
        rfl
      · have he : v.holds r.path r.marks = w.holds r.path r.marks := by simpa [parts] using hr
        simp [he]
        refine ⟨pre ++ [r], post, by simp [e1], rfl, ?_⟩
        intro x hx
        rcases List.mem_append.mp hx with h | h
        · exact hp x h
        · simp at h; subst h; simpa using hr
  · rintro _ _ ⟨pre, post, x3, x4, x5, x6, x7, e1, e2, hp, rfl, rfl⟩
    cases post with
    | cons _ _ => cases e2
    | nil =>
      simp
      rw [fnQ_rt rfl (fun i e => by cases e)]
      refine ⟨?_, rfl⟩
      rw [e1, List.append_nil, List.find?_eq_none.mpr (fun x hx => by rw [hp x hx]; simp)]
      rfl
  · exact ⟨[], b.rows, none, none, none, none, none, rfl, rfl, fun _ h => (by cases h), rfl, rfl⟩
/-! ### try_at, marks_of -/
structure LookT (T : Tab) : Prop extends TrT T where
  try_at : T.get "try_at" = some k_p_try_at
  marks_of : T.get "marks_of" = some k_p_marks_of
theorem filter_one {rs : List Row} (h : (rs.map Row.path).Nodup) {r : Row} (hr : r ∈ rs) : rs.filter (fun x => decide (x.path = r.path)) = [r] := by
  induction rs with
  | nil => cases hr
  | cons x rs ih =>
    simp only [List.map_cons, List.nodup_cons] at h
    by_cases e : x = r
    · subst e
      rw [List.filter_cons_of_pos (by simp), List.filter_eq_nil_iff.mpr]
      intro y hy
      simp
      intro e
      exact h.1 (e ▸ List.mem_map_of_mem hy)
    · have hr2 : r ∈ rs := by
        rcases List.mem_cons.mp hr with z | z
        · exact absurd z.symm e
        · exact z
      rw [List.filter_cons_of_neg, ih h.2 hr2]
      simp
      intro z
      exact h.1 (z ▸ List.mem_map_of_mem hr2)
def dIs (p : Str) : D → Bool
  | .tup (.str q :: _) => decide (q = p)
  | _ => false
theorem try_at_at (K : LookT T) (hn : 7 < n) {b : Book} (hb : b.fits) (hd : (b.rows.map Row.path).Nodup) {r : Row} (hr : r ∈ b.rows) (P : D → Sto → Prop) (E : Str → Sto → Prop) : wp (cfN T gc n "try_at" [b.d, .str r.path]) st P E = P r.d st := by
  refine wp_det ?_ P E
  obtain ⟨n, rfl⟩ : ∃ k, n = k + 1 := ⟨n - 1, by omega⟩
  rw [w_fn K.try_at]
  simp [k_p_try_at, tries_of_at K.toTrT (show 6 < n by omega) hb]
  rw [lc_pure (fun d => [some b.d, some (.str r.path), none, some d]) (dIs r.path) id (by trivial) _ _ (fun d _ => rfl)]
  · rw [filter_rows (fun x => decide (x.path = r.path)) _ (fun x => rfl), filter_one hd hr]
    simp [rowsD]
    rw [fnQ_rt rfl (fun i e => by cases e)]
    exact ⟨rfl, rfl⟩
  · intro d hd P
    obtain ⟨x, hx, rfl⟩ := List.mem_map.mp hd
    simp [ix_row0]
    rfl
  · intro d hd _ P
    simp
theorem marks_at (K : LookT T) (hn : 8 < n) {b : Book} (hb : b.fits) (hd : (b.rows.map Row.path).Nodup) {r : Row} (hr : r ∈ b.rows) (P : D → Sto → Prop) (E : Str → Sto → Prop) : wp (cfN T gc n "marks_of" [b.d, .str r.path]) st P E = P (sD r.marks) st := by
  refine wp_det ?_ P E
  obtain ⟨n, rfl⟩ : ∃ k, n = k + 1 := ⟨n - 1, by omega⟩
  rw [w_fn K.marks_of]
  simp [k_p_marks_of, try_at_at K (show 7 < n by omega) hb hd hr, ix_row2]
  rw [fnQ_rt rfl (fun i e => by cases e)]
  exact ⟨rfl, rfl⟩
end
end TB
set_option Elab.async false
set_option linter.all false
set_option maxRecDepth 100000
set_option maxHeartbeats 4000000
/-! TB26: sets of paths -/
namespace TB
open PySem PySem.Spec L2
theorem filter_path {rs : List Row} (q : Row → Bool) (p : Str → Bool) (h : ∀ r ∈ rs, p r.path = q r) : (rs.map Row.path).filter p = (rs.filter q).map Row.path := by
  rw [List.filter_map]
  congr 1
  exact List.filter_congr fun r hr => h r hr
theorem ch_not {rs : List Row} (hd : (rs.map Row.path).Nodup) (v : Wish) : (rs.map Row.path).filter (fun x => decide (x ∉ v.ch rs)) = (Wish.not v).ch rs := by
  refine filter_path _ _ fun r hr => ?_
  have := mem_filter_path hd (fun r => v.holds r.path r.marks) hr
  simp only [Wish.holds]
  rw [show decide (r.path ∉ v.ch rs) = !decide (r.path ∈ v.ch rs) from by simp]
  congr 1
  rw [Bool.eq_iff_iff, decide_eq_true_eq]
  exact this
theorem ch_and {rs : List Row} (hd : (rs.map Row.path).Nodup) (v w : Wish) : (v.ch rs).filter (fun x => decide (x ∈ w.ch rs)) = (Wish.and v w).ch rs := by
  unfold Wish.ch
  rw [filter_path (fun r => w.holds r.path r.marks) _ (fun r hr => ?_), List.filter_filter]
  · simp only [Wish.holds]
    congr 1
    exact List.filter_congr fun r _ => Bool.and_comm _ _
  · rw [Bool.eq_iff_iff, decide_eq_true_eq]
    exact mem_filter_path hd _ (List.mem_filter.mp hr).1
theorem ch_or {rs : List Row} (hd : (rs.map Row.path).Nodup) (v w : Wish) : (rs.map Row.path).filter (fun x => decide (x ∈ v.ch rs ++ w.ch rs)) = (Wish.or v w).ch rs := by
  refine filter_path _ _ fun r hr => ?_
  have h1 := mem_filter_path hd (fun r => v.holds r.path r.marks) hr
  have h2 := mem_filter_path hd (fun r => w.holds r.path r.marks) hr
  rw [Bool.eq_iff_iff, decide_eq_true_eq, List.mem_append]
  simp only [Wish.holds, Bool.or_eq_true]
  exact or_congr h1 h2
theorem ch_same {rs : List Row} {v w : Wish} (h : ∀ r ∈ rs, v.holds r.path r.marks = w.holds r.path r.marks) : v.ch rs = w.ch rs ∧ rs.find? (parts v w) = none := by
  refine ⟨?_, ?_⟩
  · unfold Wish.ch
    rw [List.filter_congr h]
  · rw [List.find?_eq_none]
    intro r hr
    simp [parts, h r hr]
theorem due_parts {rs : List Row} (hd : (rs.map Row.path).Nodup) (v w : Wish) : (rs.map Row.path).filter (fun x => decide (x ∈ v.ch rs) != decide (x ∈ w.ch rs)) = (rs.filter (parts v w)).map Row.path := by
  refine filter_path _ _ fun r hr => ?_
  have h1 := mem_filter_path hd (fun r => v.holds r.path r.marks) hr
  have h2 := mem_filter_path hd (fun r => w.holds r.path r.marks) hr
  have e1 : decide (r.path ∈ v.ch rs) = v.holds r.path r.marks := by rw [Bool.eq_iff_iff, decide_eq_true_eq]; exact h1
  have e2 : decide (r.path ∈ w.ch rs) = w.holds r.path r.marks := by rw [Bool.eq_iff_iff, decide_eq_true_eq]; exact h2
  rw [e1, e2]
  rfl
theorem ch_self {rs : List Row} (hd : (rs.map Row.path).Nodup) (v : Wish) : (rs.map Row.path).filter (fun x => decide (x ∈ v.ch rs)) = v.ch rs := by
  refine filter_path _ _ fun r hr => ?_
  rw [Bool.eq_iff_iff, decide_eq_true_eq]
  exact mem_filter_path hd _ hr
theorem ch_mem {rs : List Row} (hd : (rs.map Row.path).Nodup) (v : Wish) {r : Row} (hr : r ∈ rs) : decide (r.path ∈ v.ch rs) = v.holds r.path r.marks := by
  rw [Bool.eq_iff_iff, decide_eq_true_eq]
  exact mem_filter_path hd _ hr
theorem pathO_eq {st : Sto} (o : Option Row) : eqT st (pathO o) (pathO o) = some true := by
  cases o <;> exact eqT_refl (k := 0) (by simp [pathO, D.fine]) (by omega)
theorem first_of (rs : List Row) {st : Sto} : idxT st (.lst ((rs.map Row.path).map .str ++ [.non])) (.int 0) = some (pathO rs.head?) := by
  cases rs <;> simp [pathO]
theorem parts_comm (v w : Wish) : parts v w = parts w v := by
  funext r
  unfold parts
  cases v.holds r.path r.marks <;> cases w.holds r.path r.marks <;> rfl
theorem find_filter (rs : List Row) (q : Row → Bool) : rs.find? q = (rs.filter q).head? := by
  rw [List.head?_filter]
@[simp] theorem eqT_tS {st : Sto} (a b : List Str) : eqT st (.tup (a.map .str)) (.tup (b.map .str)) = some (decide (a = b)) := eqT_sD a b
theorem bt_tup (is : List Nat) (ds : List D) (ρ : Lo) : bindT (.tup is) (.tup ds) ρ = if ds.length = is.length then some (setD ρ is ds) else none := rfl
theorem bt_lst (is : List Nat) (ds : List D) (ρ : Lo) : bindT (.tup is) (.lst ds) ρ = if ds.length = is.length then some (setD ρ is ds) else none := rfl
def inS (a : List Str) : D → Bool
  | .str x => decide (x ∈ a)
  | _ => false
theorem ch_len (w : Wish) (rs : List Row) : (w.ch rs).length ≤ rs.length := by
  unfold Wish.ch
  rw [List.length_map]
  exact List.length_filter_le _ _
section
variable {α : Type} {src : Src} {i : Nat} {own : List Nat} {tc : Lo → M Bool} {me : Lo → M D} {ρ : Lo} {st : Sto} {E : Str → Sto → Prop}
theorem lcm (f : α → D) (c : α → Bool) (g : α → D) (hs : src.ok st) : ∀ (l : List α) (P : List D → Sto → Prop), (∀ x ∈ l, ∀ P, wp (tc ((wipeD ρ own).set i (some (f x)))) st P noX = P (c x) st) → (∀ x ∈ l, c x = true → ∀ P, wp (me ((wipeD ρ own).set i (some (f x)))) st P noX = P (g x) st) → wp (lcG src (.one i) own tc me ρ (l.map f)) st P E = P ((l.filter c).map g) st
  | [], P, hc, hm => lc_nil hs
  | x :: l, P, hc, hm => by
    rw [List.map_cons, lc_cons _ _ hs, q_bt_one, lk_some, hc x List.mem_cons_self]
    have ih := fun P => lcm f c g hs l P (fun e h => hc e (List.mem_cons_of_mem _ h)) (fun e h => hm e (List.mem_cons_of_mem _ h))
    by_cases h : c x = true
    · rw [if_pos h, hm x List.mem_cons_self h, ih, List.filter_cons_of_pos h, List.map_cons]
    · rw [if_neg h, ih, List.filter_cons_of_neg h]
end
def unT : D → List D
  | .tup l => l
  | _ => []
@[simp] theorem src_end {st : Sto} {l : List D} : srcQ (st ++ [.lst l]) (.ref st.length) = some ⟨l, some st.length⟩ := by simp [srcQ]
theorem srcok_end {st : Sto} {l : List D} : Src.ok ⟨l, some st.length⟩ (st ++ [.lst l]) := by
  show (st ++ [MO.lst l])[st.length]? = some (.lst l)
  simp
end TB
set_option Elab.async false
set_option linter.all false
set_option maxRecDepth 100000
set_option maxHeartbeats 4000000
/-! TB27: what the laws compare with: _law_same, _law_tries, _law_holds, _law_simple -/
namespace TB
open PySem PySem.Spec L2
def k_same : Def := ⟨"_law_same", ["got", "due"], ["got", "due", "one", "other"],
  (.cons (.ife (.cmp .Is (.var 1) .non)
   (.cons (.ret (.cmp .Is (.var 0) .non))
   .nil)
   .nil)
  (.cons (.ife (.isi .bool (.var 1))
   (.cons (.ret (.band (.cons (.isi .bool (.var 0)) (.cons (.cmp .Eq (.var 0) (.var 1)) .nil))))
   .nil)
   .nil)
  (.cons (.ife (.isi .tuple (.var 1))
   (.cons (.ife (.bor (.cons (.not (.isi .tuple (.var 0))) (.cons (.cmp .NotEq (.blt .len (.var 0)) (.blt .len (.var 1))) .nil)))
    (.cons (.ret (.bl false))
    .nil)
    .nil)
   (.cons (.ret (.blt .all (.lc false [("one", 2), ("other", 3)] (.tup [2, 3]) (.zip (.var 0) (.var 1)) .none (.call "_law_same" 2 (.cons (.var 2) (.cons (.var 3) .nil))))))
   .nil))
   .nil)
  (.cons (.ife (.isi .str (.var 1))
   (.cons (.ret (.band (.cons (.isi .str (.var 0)) (.cons (.cmp .Eq (.var 0) (.var 1)) .nil))))
   .nil)
   .nil)
  (.cons (.ret (.band (.cons (.isi .int (.var 0)) (.cons (.not (.isi .bool (.var 0))) (.cons (.cmp .Eq (.var 0) (.var 1)) .nil)))))
  .nil)))))⟩

def k_both : Def := ⟨"_law_both", ["one", "other"], ["one", "other", "word"],
  (.cons (.ret (.bin (.add false) (.var 0) (.blt .tuple (.lc false [("word", 2)] (.one 2) (.seq (.var 1)) (.some (.cmp .NotIn (.var 2) (.var 0))) (.var 2)))))
  .nil)⟩

def k_tries : Def := ⟨"_law_tries", ["members", "ahead", "marks", "wants"], ["members", "ahead", "marks", "wants", "got", "one", "mine", "need", "number", "path"],
  (.cons (.asg (.one 4) (.lst true .nil))
  (.cons (.for_ (.one 5) (.seq (.var 0))
   (.cons (.par 6 7 (.call "_law_both" 2 (.cons (.var 2) (.cons (.idx (.var 5) (.int 2)) .nil))) (.call "_law_both" 2 (.cons (.var 3) (.cons (.idx (.var 5) (.int 3)) .nil))))
   (.cons (.ife (.cmp .Eq (.idx (.var 5) (.int 0)) (.str "group"))
    (.cons (.asg (.one 4) (.bin (.add true) (.var 4) (.call "_law_tries" 4 (.cons (.idx (.var 5) (.int 4)) (.cons (.bin (.add false) (.bin (.add false) (.var 1) (.idx (.var 5) (.int 1))) (.str "/")) (.cons (.var 6) (.cons (.var 7) .nil)))))))
    .nil)
    (.cons (.ife (.cmp .Eq (.idx (.var 5) (.int 0)) (.str "try"))
     (.cons (.expr (.bm .append (.var 4) (.cons (.tup (.cons (.bin (.add false) (.var 1) (.idx (.var 5) (.int 1))) (.cons (.var 1) (.cons (.var 6) (.cons (.var 7) (.cons (.idx (.var 5) (.int 4)) .nil)))))) .nil)))
     .nil)
     (.cons (.for_ (.one 8) (.seq (.idx (.var 5) (.int 5)))
      (.cons (.asg (.one 9) (.bin (.add false) (.bin (.add false) (.bin (.add false) (.var 1) (.idx (.var 5) (.int 1))) (.str "=")) (.blt .str (.var 8))))
      (.cons (.expr (.bm .append (.var 4) (.cons (.tup (.cons (.var 9) (.cons (.var 1) (.cons (.var 6) (.cons (.var 7) (.cons (.bin (.add false) (.tup (.cons (.tup (.cons (.str "set") (.cons (.idx (.var 5) (.int 4)) (.cons (.var 8) .nil)))) .nil)) (.idx (.var 5) (.int 6))) .nil)))))) .nil)))
      .nil)))
     .nil))
    .nil))
   .nil)))
  (.cons (.ret (.var 4))
  .nil)))⟩

def k_holds : Def := ⟨"_law_holds", ["wish", "path", "marks"], ["wish", "path", "marks", "some", "one"],
  (.cons (.ife (.cmp .In (.idx (.var 0) (.int 0)) (.tup (.cons (.str "mark") (.cons (.str "name") .nil))))
   (.cons (.ret (.ite (.cmp .Eq (.idx (.var 0) (.int 0)) (.str "mark")) (.cmp .In (.idx (.var 0) (.int 1)) (.var 2)) (.cmp .In (.idx (.var 0) (.int 1)) (.var 1))))
   .nil)
   .nil)
  (.cons (.asg (.one 3) (.lc false [("one", 4)] (.one 4) (.seq (.slc false (.var 0) (.some (.int 1)) .none)) .none (.call "_law_holds" 3 (.cons (.var 4) (.cons (.var 1) (.cons (.var 2) .nil))))))
  (.cons (.ife (.cmp .Eq (.idx (.var 0) (.int 0)) (.str "not"))
   (.cons (.ret (.not (.idx (.var 3) (.int 0))))
   .nil)
   .nil)
  (.cons (.ret (.ite (.cmp .Eq (.idx (.var 0) (.int 0)) (.str "and")) (.band (.cons (.idx (.var 3) (.int 0)) (.cons (.idx (.var 3) (.int 1)) .nil))) (.bor (.cons (.idx (.var 3) (.int 0)) (.cons (.idx (.var 3) (.int 1)) .nil)))))
  .nil))))⟩

def k_is_simple : Def := ⟨"_law_is_simple", ["wish"], ["wish"],
  (.cons (.ife (.cmp .In (.idx (.var 0) (.int 0)) (.tup (.cons (.str "mark") (.cons (.str "name") .nil))))
   (.cons (.ret (.bl true))
   .nil)
   .nil)
  (.cons (.ife (.cmp .Eq (.idx (.var 0) (.int 0)) (.str "not"))
   (.cons (.ret (.cmp .In (.idx (.idx (.var 0) (.int 1)) (.int 0)) (.tup (.cons (.str "mark") (.cons (.str "name") .nil)))))
   .nil)
   .nil)
  (.cons (.ret (.band (.cons (.call "_law_is_simple" 1 (.cons (.idx (.var 0) (.int 1)) .nil)) (.cons (.call "_law_is_simple" 1 (.cons (.idx (.var 0) (.int 2)) .nil)) .nil))))
  .nil)))⟩

def k_simple : Def := ⟨"_law_simple", ["wish", "is_not"], ["wish", "is_not", "sign"],
  (.cons (.ife (.cmp .In (.idx (.var 0) (.int 0)) (.tup (.cons (.str "mark") (.cons (.str "name") .nil))))
   (.cons (.ret (.ite (.var 1) (.tup (.cons (.str "not") (.cons (.var 0) .nil))) (.var 0)))
   .nil)
   .nil)
  (.cons (.ife (.cmp .Eq (.idx (.var 0) (.int 0)) (.str "not"))
   (.cons (.ret (.call "_law_simple" 2 (.cons (.idx (.var 0) (.int 1)) (.cons (.not (.var 1)) .nil))))
   .nil)
   .nil)
  (.cons (.asg (.one 2) (.ite (.not (.var 1)) (.idx (.var 0) (.int 0)) (.idx (.dsp [.inr "and", .inr "or"] (.cons (.str "or") (.cons (.str "and") .nil))) (.idx (.var 0) (.int 0)))))
  (.cons (.ret (.tup (.cons (.var 2) (.cons (.call "_law_simple" 2 (.cons (.idx (.var 0) (.int 1)) (.cons (.var 1) .nil))) (.cons (.call "_law_simple" 2 (.cons (.idx (.var 0) (.int 2)) (.cons (.var 1) .nil))) .nil)))))
  .nil))))⟩

mutual
def D.tfine : Nat → D → Bool
  | _, .non => true
  | _, .bl _ => true
  | _, .int _ => true
  | _, .str _ => true
  | 0, .tup _ => false
  | k + 1, .tup l => decide (l.length ≤ 4000000) && D.tfines k l
  | _, _ => false
def D.tfines : Nat → List D → Bool
  | _, [] => true
  | k, d :: l => D.tfine k d && D.tfines k l
end
theorem tfines_mem : ∀ {k : Nat} {l : List D}, D.tfines k l = true → ∀ x ∈ l, x.tfine k = true
  | _, [], _, _, h => by cases h
  | k, d :: l, h, x, hx => by
    simp only [D.tfines, Bool.and_eq_true] at h
    rcases List.mem_cons.mp hx with rfl | hx
    · exact h.1
    · exact tfines_mem h.2 x hx
theorem tfines_of : ∀ {k : Nat} {l : List D}, (∀ x ∈ l, x.tfine k = true) → D.tfines k l = true
  | _, [], _ => by simp [D.tfines]
  | k, d :: l, h => by
    simp only [D.tfines, Bool.and_eq_true]
    exact ⟨h d List.mem_cons_self, tfines_of fun x hx => h x (List.mem_cons_of_mem _ hx)⟩
mutual
theorem tfine_fine : ∀ (k : Nat) (d : D), d.tfine k = true → d.fine k = true
  | k, .non, _ => by simp [D.fine]
  | k, .bl _, _ => by simp [D.fine]
  | k, .int _, _ => by simp [D.fine]
  | k, .str _, _ => by simp [D.fine]
  | 0, .tup _, h => by simp [D.tfine] at h
  | k + 1, .tup l, h => by
    simp only [D.tfine, Bool.and_eq_true] at h
    rw [D.fine]; exact tfines_fine k l h.2
  | k, .lst _, h => by simp [D.tfine] at h
  | k, .ref _, h => by simp [D.tfine] at h
  | k, .fn _, h => by simp [D.tfine] at h
  | k, .scr _, h => by simp [D.tfine] at h
theorem tfines_fine : ∀ (k : Nat) (l : List D), D.tfines k l = true → D.fines k l = true
  | k, [], _ => by simp [D.fines]
  | k, d :: l, h => by
    simp only [D.tfines, Bool.and_eq_true] at h
    simp only [D.fines, Bool.and_eq_true]
    exact ⟨tfine_fine k d h.1, tfines_fine k l h.2⟩
end
theorem tf_strs (k : Nat) (l : List Str) : D.tfines k (l.map .str) = true := tfines_of fun x hx => by
  obtain ⟨y, _, rfl⟩ := List.mem_map.mp hx
  simp [D.tfine]
theorem tf_sD (k : Nat) {l : List Str} (h : l.length ≤ 4000000) : (sD l).tfine (k + 1) = true := by simp only [sD, D.tfine, List.length_map, decide_eq_true h, Bool.true_and]; exact tf_strs k l
theorem Wish.tf : ∀ (w : Wish) (k : Nat), w.deep ≤ k → w.d.tfine k = true
  | .mark x, k, h => by
    obtain ⟨k, rfl⟩ : ∃ j, k = j + 1 := ⟨k - 1, by simp [Wish.deep] at h; omega⟩
    simp [Wish.d, D.tfine, D.tfines]
  | .name x, k, h => by
    obtain ⟨k, rfl⟩ : ∃ j, k = j + 1 := ⟨k - 1, by simp [Wish.deep] at h; omega⟩
    simp [Wish.d, D.tfine, D.tfines]
  | .not w, k, h => by
    simp only [Wish.deep] at h
    obtain ⟨k, rfl⟩ : ∃ j, k = j + 1 := ⟨k - 1, by omega⟩
    simp [Wish.d, D.tfine, D.tfines, Wish.tf w k (by omega)]
  | .and a b, k, h => by
    simp only [Wish.deep] at h
    obtain ⟨k, rfl⟩ : ∃ j, k = j + 1 := ⟨k - 1, by omega⟩
    simp [Wish.d, D.tfine, D.tfines, Wish.tf a k (by omega), Wish.tf b k (by omega)]
  | .or a b, k, h => by
    simp only [Wish.deep] at h
    obtain ⟨k, rfl⟩ : ∃ j, k = j + 1 := ⟨k - 1, by omega⟩
    simp [Wish.d, D.tfine, D.tfines, Wish.tf a k (by omega), Wish.tf b k (by omega)]
def firstT : D → Lo → Lo
  | .tup [x, y], ρ => (ρ.set 2 (some x)).set 3 (some y)
  | _, ρ => ρ
theorem isnon_non : D.isNon .non = true := rfl
theorem zip_self (l : List D) : zipD l l = l.map fun x => .tup [x, x] := by
  unfold zipD
  rw [List.zip_eq_zipWith, List.zipWith_self, List.map_map]
  rfl
section
variable {T : Tab} {gc : Str → Option D} {n : Nat} {st : Sto} {P : D → Sto → Prop} {E : Str → Sto → Prop}
theorem same_at (hS : T.get "_law_same" = some k_same) : ∀ (k n : Nat) (d : D) (st : Sto) (P : D → Sto → Prop) (E : Str → Sto → Prop), d.tfine k = true → k < n → k ≤ 64 → wp (cfN T gc n "_law_same" [d, d]) st P E = P (.bl true) st := by
  intro k
  induction k with
  | zero =>
    intro n d st P E h hn hk
    obtain ⟨n, rfl⟩ : ∃ k, n = k + 1 := ⟨n - 1, by omega⟩
    have e := eqT_refl (st := st) (tfine_fine _ d h) hk
    rw [w_fn hS]
    cases d with
    | non => simp [k_same, isnon_non]
    | bl b => simp [k_same]
    | int i => simp [k_same]
    | str x => simp [k_same]
    | tup l => simp [D.tfine] at h
    | lst l => simp [D.tfine] at h
    | ref l => simp [D.tfine] at h
    | fn l => simp [D.tfine] at h
    | scr l => simp [D.tfine] at h
  | succ k ih =>
    intro n d st P E h hn hk
    obtain ⟨n, rfl⟩ : ∃ k, n = k + 1 := ⟨n - 1, by omega⟩
    rw [w_fn hS]
    cases d with
    | non => simp [k_same, isnon_non]
    | bl b => simp [k_same]
    | int i => simp [k_same]
    | str x => simp [k_same]
    | lst l => simp [D.tfine] at h
    | ref l => simp [D.tfine] at h
    | fn l => simp [D.tfine] at h
    | scr l => simp [D.tfine] at h
    | tup l =>
      simp only [D.tfine, Bool.and_eq_true, decide_eq_true_eq] at h
      have hl : (l.length ≤ 16777216) = True := eq_true (by omega)
      simp [k_same, srcZ, zip_self]
      rw [lc_map (fun d => firstT d [some (.tup l), some (.tup l), none, none]) (fun _ => .bl true) (by trivial)]
      · rw [List.map_map, show ((fun _ => D.bl true) ∘ fun x => D.tup [x, x]) = (fun x : D => D.bl ((fun _ => true) x)) from rfl, boolsOf_map (fun _ => true) l]
        have ha : (l.all fun _ => true) = true := List.all_eq_true.mpr fun _ _ => rfl
        simp [hl, ha]
      · intro d hd
        obtain ⟨x, hx, rfl⟩ := List.mem_map.mp hd
        rfl
      · intro d hd P
        obtain ⟨x, hx, rfl⟩ := List.mem_map.mp hd
        simp [firstT]
        rw [ih n x _ _ _ (tfines_mem h.2 x hx) (by omega) (by omega)]
theorem both_at (hJ : T.get "_law_both" = some k_both) (hn : 0 < n) (a b : List Str) (hl : a.length + b.length ≤ 1000000) : wp (cfN T gc n "_law_both" [sD a, sD b]) st P E = P (sD (joinL a b)) st := by
  obtain ⟨n, rfl⟩ : ∃ k, n = k + 1 := ⟨n - 1, by omega⟩
  rw [w_fn hJ]
  simp [k_both, sD]
  rw [lc_pure (fun d => [some (.tup (a.map .str)), some (.tup (b.map .str)), some d]) (fun d => match d with | .str x => decide (x ∉ a) | _ => true) id (by trivial) _ _ (fun d _ => rfl)]
  · have hf := List.length_filter_le (fun x => decide (x ∉ a)) b
    rw [List.map_id, filter_str (fun x => decide (x ∉ a)) _ (fun x => rfl)]
    rw [fnQ_rt rfl (fun i e => by cases e)]
    have hf2 := List.length_filter_le (fun x => !decide (x ∈ a)) b
    simp [joinL]
    exact ⟨fun h => h.2.2, fun h => ⟨by omega, by omega, h⟩⟩
  · intro d hd P
    obtain ⟨x, hx, rfl⟩ := List.mem_map.mp hd
    simp
  · intro d hd _ P
    simp
/-! ### _law_holds -/
theorem lholds_at (hH : T.get "_law_holds" = some k_holds) : ∀ (w : Wish) (n : Nat) (st : Sto) (p : Str) (ms : List Str) (P : D → Sto → Prop) (E : Str → Sto → Prop), w.deep < n → wp (cfN T gc n "_law_holds" [w.d, .str p, sD ms]) st P E = P (.bl (w.holds p ms)) st
  | .mark x, n, st, p, ms, P, E, h => by
    obtain ⟨n, rfl⟩ : ∃ k, n = k + 1 := ⟨n - 1, by omega⟩
    rw [w_fn hH]
    simp [k_holds, Wish.d, Wish.holds]
    try rw [fnQ_rt rfl (fun i e => by cases e)]
  | .name x, n, st, p, ms, P, E, h => by
    obtain ⟨n, rfl⟩ : ∃ k, n = k + 1 := ⟨n - 1, by omega⟩
    rw [w_fn hH]
    simp [k_holds, Wish.d, Wish.holds]
    try rw [fnQ_rt rfl (fun i e => by cases e)]
  | .not w, n, st, p, ms, P, E, h => by
    simp only [Wish.deep] at h
    obtain ⟨n, rfl⟩ : ∃ k, n = k + 1 := ⟨n - 1, by omega⟩
    have ha := fun st P E => lholds_at hH w n st p ms P E (by omega)
    rw [w_fn hH]
    simp [k_holds, Wish.d, Wish.holds]
    rw [show cutG [D.str "not", w.d] (some 1) none = [w.d] from rfl, lc_cons _ _ (by trivial)]
    simp [ha, wipeD]
    rw [lc_nil (by trivial)]
    simp
    try rw [fnQ_rt rfl (fun i e => by cases e)]
  | .and a b, n, st, p, ms, P, E, h => by
    simp only [Wish.deep] at h
    obtain ⟨n, rfl⟩ : ∃ k, n = k + 1 := ⟨n - 1, by omega⟩
    have ha := fun st P E => lholds_at hH a n st p ms P E (by omega)
    have hb := fun st P E => lholds_at hH b n st p ms P E (by omega)
    rw [w_fn hH]
    simp [k_holds, Wish.d, Wish.holds]
    rw [show cutG [D.str "and", a.d, b.d] (some 1) none = [a.d, b.d] from rfl, lc_cons _ _ (by trivial)]
    simp [ha, wipeD]
    rw [lc_cons _ _ (by trivial)]
    simp [hb, wipeD]
    rw [lc_nil (by trivial)]
    cases a.holds p ms <;> simp <;> try rw [fnQ_rt rfl (fun i e => by cases e)]
  | .or a b, n, st, p, ms, P, E, h => by
    simp only [Wish.deep] at h
    obtain ⟨n, rfl⟩ : ∃ k, n = k + 1 := ⟨n - 1, by omega⟩
    have ha := fun st P E => lholds_at hH a n st p ms P E (by omega)
    have hb := fun st P E => lholds_at hH b n st p ms P E (by omega)
    rw [w_fn hH]
    simp [k_holds, Wish.d, Wish.holds]
    rw [show cutG [D.str "or", a.d, b.d] (some 1) none = [a.d, b.d] from rfl, lc_cons _ _ (by trivial)]
    simp [ha, wipeD]
    rw [lc_cons _ _ (by trivial)]
    simp [hb, wipeD]
    rw [lc_nil (by trivial)]
    cases a.holds p ms <;> simp <;> try rw [fnQ_rt rfl (fun i e => by cases e)]
/-! ### _law_is_simple, _law_simple -/
def Wish.leaf : Wish → Bool
  | .mark _ => true
  | .name _ => true
  | _ => false
def Wish.isS : Wish → Bool
  | .mark _ => true
  | .name _ => true
  | .not w => w.leaf
  | .and a b => a.isS && b.isS
  | .or a b => a.isS && b.isS
theorem Wish.simp_isS : ∀ (w : Wish) (b : Bool), (w.simp b).isS = true
  | .mark _, b => by cases b <;> rfl
  | .name _, b => by cases b <;> rfl
  | .not w, b => by simp only [Wish.simp]; exact Wish.simp_isS w _
  | .and a c, b => by cases b <;> simp [Wish.simp, Wish.isS, Wish.simp_isS a, Wish.simp_isS c]
  | .or a c, b => by cases b <;> simp [Wish.simp, Wish.isS, Wish.simp_isS a, Wish.simp_isS c]
theorem is_simple_at (hH : T.get "_law_is_simple" = some k_is_simple) : ∀ (w : Wish) (n : Nat) (st : Sto) (P : D → Sto → Prop) (E : Str → Sto → Prop), w.deep < n → wp (cfN T gc n "_law_is_simple" [w.d]) st P E = P (.bl w.isS) st
  | .mark x, n, st, P, E, h => by
    obtain ⟨n, rfl⟩ : ∃ k, n = k + 1 := ⟨n - 1, by omega⟩
    rw [w_fn hH]
    simp [k_is_simple, Wish.d, Wish.isS]
    try rw [fnQ_rt rfl (fun i e => by cases e)]
  | .name x, n, st, P, E, h => by
    obtain ⟨n, rfl⟩ : ∃ k, n = k + 1 := ⟨n - 1, by omega⟩
    rw [w_fn hH]
    simp [k_is_simple, Wish.d, Wish.isS]
    try rw [fnQ_rt rfl (fun i e => by cases e)]
  | .not w, n, st, P, E, h => by
    obtain ⟨n, rfl⟩ : ∃ k, n = k + 1 := ⟨n - 1, by omega⟩
    rw [w_fn hH]
    cases w <;> simp [k_is_simple, Wish.d, Wish.isS, Wish.leaf] <;> try rw [fnQ_rt rfl (fun i e => by cases e)]
  | .and a b, n, st, P, E, h => by
    simp only [Wish.deep] at h
    obtain ⟨n, rfl⟩ : ∃ k, n = k + 1 := ⟨n - 1, by omega⟩
    have ha := fun st P E => is_simple_at hH a n st P E (by omega)
    have hb := fun st P E => is_simple_at hH b n st P E (by omega)
    rw [w_fn hH]
    simp [k_is_simple, Wish.d, Wish.isS, ha, hb]
    cases a.isS <;> simp <;> try rw [fnQ_rt rfl (fun i e => by cases e)]
  | .or a b, n, st, P, E, h => by
    simp only [Wish.deep] at h
    obtain ⟨n, rfl⟩ : ∃ k, n = k + 1 := ⟨n - 1, by omega⟩
    have ha := fun st P E => is_simple_at hH a n st P E (by omega)
    have hb := fun st P E => is_simple_at hH b n st P E (by omega)
    rw [w_fn hH]
    simp [k_is_simple, Wish.d, Wish.isS, ha, hb]
    cases a.isS <;> simp <;> try rw [fnQ_rt rfl (fun i e => by cases e)]
theorem lsimple_at (hH : T.get "_law_simple" = some k_simple) : ∀ (w : Wish) (b : Bool) (n : Nat) (st : Sto), w.deep < n → wp (cfN T gc n "_law_simple" [w.d, .bl b]) st (fun d st1 => d = (w.simp b).d ∧ st1 = st) noX
  | .mark x, b, n, st, h => by
    obtain ⟨n, rfl⟩ : ∃ k, n = k + 1 := ⟨n - 1, by omega⟩
    rw [w_fn hH]
    cases b <;> simp [k_simple, Wish.d, Wish.simp] <;> (rw [fnQ_rt rfl (fun i e => by cases e)]; exact ⟨rfl, rfl⟩)
  | .name x, b, n, st, h => by
    obtain ⟨n, rfl⟩ : ∃ k, n = k + 1 := ⟨n - 1, by omega⟩
    rw [w_fn hH]
    cases b <;> simp [k_simple, Wish.d, Wish.simp] <;> (rw [fnQ_rt rfl (fun i e => by cases e)]; exact ⟨rfl, rfl⟩)
  | .not w, b, n, st, h => by
    simp only [Wish.deep] at h
    obtain ⟨n, rfl⟩ : ∃ k, n = k + 1 := ⟨n - 1, by omega⟩
    rw [w_fn hH]
    simp [k_simple, Wish.d, Wish.simp]
    refine wp_go (lsimple_at hH w (!b) n st (by omega)) ?_
    rintro _ _ ⟨rfl, rfl⟩
    rw [fnQ_rt rfl (fun i e => absurd e (Wish.noref _ i))]
    exact ⟨rfl, rfl⟩
  | .and a c, b, n, st, h => by
    simp only [Wish.deep] at h
    obtain ⟨n, rfl⟩ : ∃ k, n = k + 1 := ⟨n - 1, by omega⟩
    rw [w_fn hH]
    cases b
    · simp [k_simple, Wish.d, Wish.simp]
      refine wp_go (lsimple_at hH a false n _ (by omega)) ?_
      rintro _ _ ⟨rfl, rfl⟩
      try simp
      refine wp_go (lsimple_at hH c false n _ (by omega)) ?_
      rintro _ _ ⟨rfl, rfl⟩
      rw [fnQ_rt rfl (fun i e => by cases e)]
      exact ⟨rfl, rfl⟩
    · simp [k_simple, Wish.d, Wish.simp, mergeG, putG, valG]
      refine wp_go (lsimple_at hH a true n _ (by omega)) ?_
      rintro _ _ ⟨rfl, rfl⟩
      try simp
      refine wp_go (lsimple_at hH c true n _ (by omega)) ?_
      rintro _ _ ⟨rfl, rfl⟩
      rw [fnQ_drop (fun i e => by cases e) (by simp [D.rlt, D.rlts, Wish.rlt]) (.inl (by simp))]
      simp
  | .or a c, b, n, st, h => by
    simp only [Wish.deep] at h
    obtain ⟨n, rfl⟩ : ∃ k, n = k + 1 := ⟨n - 1, by omega⟩
    rw [w_fn hH]
    cases b
    · simp [k_simple, Wish.d, Wish.simp]
      refine wp_go (lsimple_at hH a false n _ (by omega)) ?_
      rintro _ _ ⟨rfl, rfl⟩
      try simp
      refine wp_go (lsimple_at hH c false n _ (by omega)) ?_
      rintro _ _ ⟨rfl, rfl⟩
      rw [fnQ_rt rfl (fun i e => by cases e)]
      exact ⟨rfl, rfl⟩
    · simp [k_simple, Wish.d, Wish.simp, mergeG, putG, valG]
      refine wp_go (lsimple_at hH a true n _ (by omega)) ?_
      rintro _ _ ⟨rfl, rfl⟩
      try simp
      refine wp_go (lsimple_at hH c true n _ (by omega)) ?_
      rintro _ _ ⟨rfl, rfl⟩
      rw [fnQ_drop (fun i e => by cases e) (by simp [D.rlt, D.rlts, Wish.rlt]) (.inl (by simp))]
      simp
end
end TB
set_option Elab.async false
set_option linter.all false
set_option maxRecDepth 100000
set_option maxHeartbeats 4000000
/-! TB28: _law_tries -/
namespace TB
open PySem PySem.Spec L2
section
variable {T : Tab} {gc : Str → Option D} {n : Nat} {st : Sto} {P : D → Sto → Prop} {E : Str → Sto → Prop}
theorem q_add_ref {j : Nat} {l m : List D} (h : st[j]? = some (.lst l)) (hl : (l ++ m).length ≤ 16777216) : wp (opAdd true (.ref j) (.lst m)) st P E = P (.ref st.length) (st ++ [.lst (l ++ m)]) := by
  have e : opAdd true (.ref j) (.lst m) st = mkL true (l ++ m) st := by
    show (match lstOf st (.ref j), lstOf st (.lst m) with
      | some a, some b => mkL true (a ++ b) st
      | _, _ => none) = _
    rw [lo_ref h]
    rfl
  have := wp_mkLt (st := st) (E := E) (l ++ m) (P := P)
  unfold wp at this ⊢
  rw [e, this]
  exact propext ⟨fun h => h.2, fun h => ⟨by simpa using hl, h⟩⟩
theorem ref_lt {j : Nat} {o : MO} (h : st[j]? = some o) : j < st.length := (List.getElem?_eq_some_iff.mp h).1
theorem ltries_at (hJ : T.get "_law_both" = some k_both) (hT : T.get "_law_tries" = some k_tries) (k : Nat) : ∀ (n : Nat) (st : Sto) (ms : List Mem) (a : Str) (mk ws : List Str), fitsIn k ms → ms.length ≤ 20 → k + 2 < n → k ≤ 3 → a.length + 30 * (k + 1) ≤ 1000 → mk.length + 30 * (k + 1) ≤ 1000 → ws.length + 30 * (k + 1) ≤ 1000 →
    wp (cfN T gc n "_law_tries" [.tup (memsD ms), .str a, sD mk, sD ws]) st (fun d st1 => d = .lst (rowsD (rowsIn a mk ws ms)) ∧ st1 = st) noX := by
  induction k using Nat.strongRecOn with
  | ind k ih =>
    intro n st ms a mk ws hf hl hn hk ha hm hw
    obtain ⟨n, rfl⟩ : ∃ k, n = k + 1 := ⟨n - 1, by omega⟩
    rw [w_fn hT]
    simp [k_tries]
    have bnd : ∀ (pre post : List Mem) (m : Mem), ms = pre ++ m :: post → (rowsD (rowsIn a mk ws pre)).length ≤ 3200000 := by
      intro pre post m e
      have h1 := rowsIn_len k pre a mk ws (by rw [e] at hf; exact (fitsIn_app hf).1)
      have h2 : pre.length ≤ 20 := by rw [e, List.length_append] at hl; omega
      have h3 : pre.length * 20 ^ (k + 1) ≤ 20 * 20 ^ 4 := Nat.mul_le_mul h2 (Nat.pow_le_pow_right (by omega) (by omega))
      rw [rowsD, List.length_map]
      have : (20 : Nat) * 20 ^ 4 = 3200000 := by decide
      omega
    refine loop_inv (fun ds ρ st2 => ∃ (pre post : List Mem) (j : Nat) (x5 x6 x7 x8 x9 : Option D), ms = pre ++ post ∧ ds = memsD post ∧ st2.take st.length = st ∧ st.length ≤ j ∧ st2[j]? = some (.lst (rowsD (rowsIn a mk ws pre))) ∧ ρ = [some (.tup (memsD ms)), some (.str a), some (sD mk), some (sD ws), some (.ref j), x5, x6, x7, x8, x9]) ?_ ?_ ?_ _ _ _ ?_
    · intro ds ρ st2 _
      trivial
    · rintro d ds _ st2 ⟨pre, post, j, x5, x6, x7, x8, x9, e1, e2, tk, hj, hrow, rfl⟩
      cases post with
      | nil => cases e2
      | cons m post =>
        simp only [memsD, List.cons.injEq] at e2
        obtain ⟨rfl, rfl⟩ := e2
        refine ⟨_, rfl, ?_⟩
        rw [e1] at hf
        obtain ⟨f1, f2⟩ := fitsIn_app hf
        simp only [fitsIn] at f2
        obtain ⟨f2, f3⟩ := f2
        have hlen := bnd pre post _ e1
        have hjl := ref_lt hrow
        cases m with
        | try_ nm mm w ds =>
          simp only [Mem.fit] at f2
          simp [Mem.d, at3, at4, q_add_str (show a.length + nm.length ≤ 16777216 by omega), both_at hJ (show 0 < n by omega) mk mm (by omega), both_at hJ (show 0 < n by omega) ws w (by omega), bt_ref hrow, q_app hrow (show (rowsD (rowsIn a mk ws pre)).length < 16777216 by omega)]
          refine ⟨pre ++ [.try_ nm mm w ds], post, by simp [e1], rfl, by rw [List.take_set_of_le hj]; exact tk, hj, ?_⟩
          rw [List.getElem?_set_self hjl]
          simp [rowsIn_app, rowsIn, Mem.rows, rowsD, Row.d]
        | many nm mm w ky ns ds =>
          simp only [Mem.fit] at f2
          obtain ⟨g1, g2, g3, g4, g5, g6⟩ := f2
          simp [Mem.d, at3, at4, at5, both_at hJ (show 0 < n by omega) mk mm (by omega), both_at hJ (show 0 < n by omega) ws w (by omega)]
          refine loop_inv (fun ds2 ρ st3 => ∃ pre2 post2 y8 y9, ns = pre2 ++ post2 ∧ ds2 = post2.map D.int ∧ st3.take st.length = st ∧ st3[j]? = some (.lst (rowsD (rowsIn a mk ws pre ++ pre2.map fun i => ⟨a ++ nm ++ "=" ++ numStr i, a, joinL mk mm, joinL ws w, .set ky i :: ds⟩))) ∧
            ρ = [some (.tup (memsD ms)), some (.str a), some (sD mk), some (sD ws), some (.ref j), some (Mem.many nm mm w ky ns ds).d, some (sD (joinL mk mm)), some (sD (joinL ws w)), y8, y9]) ?_ ?_ ?_ _ _ _ ?_
          · intro ds ρ st2 _
            trivial
          · rintro d2 ds2 _ st3 ⟨pre2, post2, y8, y9, q1, q2, tk3, hrow3, rfl⟩
            cases post2 with
            | nil => cases q2
            | cons i post2 =>
              simp only [List.map_cons, List.cons.injEq] at q2
              obtain ⟨rfl, rfl⟩ := q2
              refine ⟨_, rfl, ?_⟩
              have hi : fitI i := g6 i (by rw [q1]; simp)
              have hi2 := (num_fit hi).2
              have hl2 : (rowsD (rowsIn a mk ws pre ++ pre2.map fun i => (⟨a ++ nm ++ "=" ++ numStr i, a, joinL mk mm, joinL ws w, .set ky i :: ds⟩ : Row))).length < 16777216 := by
                have : pre2.length ≤ 20 := by rw [q1, List.length_append] at g5; omega
                simp [rowsD] at hlen ⊢
                omega
              have s1 : ("=" : Str).length = 1 := by decide +kernel
              have l1 : (a ++ nm).length = a.length + nm.length := len_app _ _
              have l2 : (a ++ nm ++ "=").length = a.length + nm.length + 1 := by rw [len_app, l1, s1]
              have hdl : (ds.length + 1 ≤ 16777216) = True := eq_true (by omega)
              have hdl2 : (ds.length ≤ 16777215) = True := eq_true (by omega)
              have hjl3 := ref_lt hrow3
              simp [Mem.d, at4, at6, q_add_str (show a.length + nm.length ≤ 16777216 by omega), q_add_str (show (a ++ nm).length + ("=" : Str).length ≤ 16777216 by omega), q_add_str (show (a ++ nm ++ "=").length + (numStr i).length ≤ 16777216 by omega), q_str_int hi, bt_ref hrow3, q_app hrow3 hl2, dsD, hdl, hdl2]
              refine ⟨pre2 ++ [i], post2, by simp [q1], rfl, by rw [List.take_set_of_le hj]; exact tk3, ?_⟩
              rw [List.getElem?_set_self hjl3]
              simp [rowsD, Row.d, dsD, Deed.d]
          · rintro _ st3 ⟨pre2, post2, y8, y9, q1, q2, tk3, hrow3, rfl⟩
            cases post2 with
            | cons i post2 => cases q2
            | nil =>
              rw [List.append_nil] at q1
              subst q1
              simp
              refine ⟨pre ++ [.many nm mm w ky ns ds], post, by simp [e1], rfl, tk3, hj, ?_⟩
              rw [hrow3]
              simp [rowsIn_app, rowsIn, Mem.rows, rowsD]
          · exact ⟨[], ns, _, _, rfl, rfl, tk, by rw [hrow]; simp, rfl⟩
        | group nm mm w mem =>
          cases k with
          | zero => simp [Mem.fit] at f2
          | succ k =>
            simp only [Mem.fit] at f2
            obtain ⟨g1, g2, g3, g4, g5⟩ := f2
            have j1 := joinL_len mk mm
            have j2 := joinL_len ws w
            have s1 : ("/" : Str).length = 1 := by decide +kernel
            have l1 : (a ++ nm).length = a.length + nm.length := len_app _ _
            have l2 : (a ++ nm ++ "/").length = a.length + nm.length + 1 := by rw [len_app, l1, s1]
            simp [Mem.d, at3, at4, q_add_str (show a.length + nm.length ≤ 16777216 by omega), q_add_str (show (a ++ nm).length + ("/" : Str).length ≤ 16777216 by omega), both_at hJ (show 0 < n by omega) mk mm (by omega), both_at hJ (show 0 < n by omega) ws w (by omega)]
            rw [wp_det (ih k (by omega) n _ mem (a ++ nm ++ "/") (joinL mk mm) (joinL ws w) g5 g4 (by omega) (by omega) (by omega) (by omega) (by omega))]
            have hl2 : (rowsD (rowsIn (a ++ nm ++ "/") (joinL mk mm) (joinL ws w) mem)).length ≤ 3200000 := by
              have h1 := rowsIn_len k mem (a ++ nm ++ "/") (joinL mk mm) (joinL ws w) g5
              have h3 : mem.length * 20 ^ (k + 1) ≤ 20 * 20 ^ 4 := Nat.mul_le_mul g4 (Nat.pow_le_pow_right (by omega) (by omega))
              rw [rowsD, List.length_map]
              have : (20 : Nat) * 20 ^ 4 = 3200000 := by decide
              omega
            rw [q_add_ref hrow (by rw [List.length_append]; omega)]
            have hst : st.length ≤ st2.length := by omega
            refine ⟨pre ++ [.group nm mm w mem], post, by simp [e1], rfl, by rw [List.take_append_of_le_length hst]; exact tk, st2.length, hst, ?_, rfl⟩
            simp [rowsIn_app, rowsIn, Mem.rows, rowsD]
    · rintro _ st2 ⟨pre, post, j, x5, x6, x7, x8, x9, e1, e2, tk, hj, hrow, rfl⟩
      cases post with
      | cons m post => cases e2
      | nil =>
        rw [List.append_nil] at e1
        subst e1
        simp
        rw [fnQ_list (l := rowsD (rowsIn a mk ws ms)) hj hrow (rlt_rows _ _) (.inl tk)]
        exact ⟨rfl, tk⟩
    · exact ⟨[], ms, st.length, _, _, _, _, _, rfl, rfl, by simp, Nat.le_refl _, by simp [rowsIn, rowsD], rfl⟩
theorem ltries_eq (hJ : T.get "_law_both" = some k_both) (hT : T.get "_law_tries" = some k_tries) (hn : 5 < n) {b : Book} (hb : b.fits) (P : D → Sto → Prop) (E : Str → Sto → Prop) : wp (cfN T gc n "_law_tries" [.tup (memsD b.mems), .str "", .tup [], .tup []]) st P E = P (.lst (rowsD b.rows)) st := by
  have e0 : ("" : Str).length = 0 := by decide +kernel
  exact wp_det (ltries_at (T := T) (gc := gc) hJ hT 3 n st b.mems "" [] [] hb.fit hb.few (by omega) (by omega) (by rw [e0]; omega) (by simp) (by simp)) P E
end
theorem apart_parts {rs : List Row} (hd : (rs.map Row.path).Nodup) (v w : Wish) : ((Wish.or v w).ch rs).filter (fun x => decide (x ∉ (Wish.and v w).ch rs)) = (rs.filter (parts v w)).map Row.path := by
  unfold Wish.ch
  rw [filter_path (fun r => !(Wish.and v w).holds r.path r.marks) _ (fun r hr => ?_), List.filter_filter]
  · congr 1
    refine List.filter_congr fun r _ => ?_
    simp only [Wish.holds, parts]
    cases v.holds r.path r.marks <;> cases w.holds r.path r.marks <;> rfl
  · have := ch_mem hd (.and v w) (List.mem_filter.mp hr).1
    unfold Wish.ch at this
    rw [← this]
    simp only [decide_not]
end TB
set_option Elab.async false
set_option linter.all false
set_option maxRecDepth 100000
set_option maxHeartbeats 4000000
namespace TBP
open PySem PySem.Spec L2 TB
variable {n : Nat} {st : Sto} {P : D → Sto → Prop} {E : Str → Sto → Prop}
theorem lawT : LawT T := ⟨rfl, rfl, rfl, rfl, rfl, rfl, rfl, rfl, rfl⟩
theorem g_tries_in : T.get "tries_in" = some k_p_tries_in := by rfl
theorem g_joined : T.get "joined" = some k_p_joined := by rfl
theorem g_tries_of : T.get "tries_of" = some k_p_tries_of := by rfl
theorem g_holds : T.get "holds" = some k_p_holds := by rfl
theorem g_chosen : T.get "chosen" = some k_p_chosen := by rfl
theorem g_simple : T.get "simple" = some k_p_simple := by rfl
theorem g_parting : T.get "parting" = some k_p_parting := by rfl
theorem g_wish : T.get "_law_wish" = some k_wish := by rfl
theorem g_same : T.get "_law_same" = some k_same := by rfl
theorem g_both : T.get "_law_both" = some k_both := by rfl
theorem g_tries : T.get "_law_tries" = some k_tries := by rfl
theorem g_lholds : T.get "_law_holds" = some k_holds := by rfl
theorem g_is_simple : T.get "_law_is_simple" = some k_is_simple := by rfl
theorem g_lsimple : T.get "_law_simple" = some k_simple := by rfl
theorem g_law : T.get "law" = some b_law := by rfl
theorem chT : ChT T := ⟨⟨rfl, rfl, rfl⟩, rfl, rfl, rfl, rfl⟩
theorem ix_book1 {st : Sto} (b : Book) : idxT st b.d (.int 1) = some (.tup (memsD b.mems)) := by simp [Book.d]
theorem r6 : srcR1 (.int 6) = some ⟨rngL 0 6, none⟩ := q_rng 6 (by omega)
theorem ch_map (w : Wish) (rs : List TB.Row) : (rs.filter (fun r => w.holds r.path r.marks)).map (fun r => D.str r.path) = (w.ch rs).map .str := by simp [Wish.ch]
theorem wf1 (k : Nat) : Wf [.lst (zeros k)] := by
  intro o ho
  simp at ho
  subst ho
  exact zeros_rlt _ _
theorem tf_tup {k : Nat} {l : List D} (hl : l.length ≤ 4000000) (h : ∀ x ∈ l, x.tfine k = true) : (D.tup l).tfine (k + 1) = true := by
  simp only [D.tfine, Bool.and_eq_true, decide_eq_true_eq]
  exact ⟨hl, tfines_of h⟩
theorem law_pure (ns : List Int) : wp (cfN T gc 60 "law" [.scr ns]) [] (fun d _ => d = .bl true) noX := by
  rw [w_fn (n := 59) g_law]
  simp only [b_law]
  simp [r6]
  refine loop_inv (fun ds ρ st2 => ∃ (kk : Nat) (x2 x3 x4 x5 x6 x7 x8 x9 x10 x11 x12 x13 x14 x15 x16 x17 : Option D), ds.length ≤ 6 ∧ kk ≤ 3500 * (6 - ds.length) ∧ st2 = [.lst (zeros kk)] ∧ ρ = [some (.scr ns), some (.ref 0), x2, x3, x4, x5, x6, x7, x8, x9, x10, x11, x12, x13, x14, x15, x16, x17]) ?_ ?_ ?_ _ _ _ ?_
  · intro ds ρ st2 _
    trivial
  · rintro d ds _ _ ⟨kk, x2, x3, x4, x5, x6, x7, x8, x9, x10, x11, x12, x13, x14, x15, x16, x17, hl, hkk, rfl, rfl⟩
    refine ⟨_, rfl, ?_⟩
    simp at hl hkk
    simp
    refine wp_go (book_at lawT (by omega) (i := 0) (k := kk) rfl (wf1 _) (by omega)) ?_
    rintro _ _ ⟨b, k1, rfl, bo, hk1, rfl⟩
    have hb := bo.fits
    have hd := bo.nodup
    have few := rows_few hb
    have w5 : wc 5 = 189 := rfl
    have w4 : wc 4 = 93 := rfl
    simp [ix_book1, ltries_eq g_both g_tries (show 5 < 59 by omega) hb]
    refine wp_go (wishW_at lawT.draw lawT.pick g_wish 5 59 k1 _ (by omega) (by omega) rfl) ?_
    rintro _ _ ⟨one, k2, rfl, d1, _, hk2, rfl⟩
    simp
    refine wp_go (wishW_at lawT.draw lawT.pick g_wish 5 59 k2 _ (by omega) (by omega) rfl) ?_
    rintro _ _ ⟨other, k3, rfl, d2, _, hk3, rfl⟩
    have c1 := fun st P E => chosen_at (gc := gc) (st := st) chT (show 7 < 59 by omega) hb (w := one) (by omega) P E
    have c2 := fun st P E => chosen_at (gc := gc) (st := st) chT (show 7 < 59 by omega) hb (w := other) (by omega) P E
    have c3 := fun st P E => chosen_at (gc := gc) (st := st) chT (show 7 < 59 by omega) hb (w := .and one other) (by simp only [Wish.deep]; omega) P E
    have c4 := fun st P E => chosen_at (gc := gc) (st := st) chT (show 7 < 59 by omega) hb (w := .or one other) (by simp only [Wish.deep]; omega) P E
    have c5 := fun st P E => chosen_at (gc := gc) (st := st) chT (show 7 < 59 by omega) hb (w := .not one) (by simp only [Wish.deep]; omega) P E
    simp only [Wish.d] at c3 c4 c5
    have sm : ∀ (d : D) (k : Nat), d.tfine k = true → k ≤ 20 → ∀ st P E, wp (cfN T gc 59 "_law_same" [d, d]) st P E = P (.bl true) st := fun d k h hk st P E => same_at g_same k 59 d st P E h (by omega) (by omega)
    have lch : ∀ w : Wish, (w.ch b.rows).length ≤ 3200000 := fun w => Nat.le_trans (ch_len w _) few
    have tfc : ∀ w : Wish, (D.tup ((w.ch b.rows).map .str)).tfine 1 = true := fun w => tf_sD 0 (Nat.le_trans (lch w) (by omega))
    simp [bt_tup, setD, rowsD]
    rw [lcm Row.d (fun r => one.holds r.path r.marks) (fun r => .str r.path) (by trivial) b.rows]
    · rw [ch_map]
      refine ⟨by rw [List.length_map]; have := lch one; omega, ?_⟩
      rw [lcm Row.d (fun r => other.holds r.path r.marks) (fun r => .str r.path) (by trivial) b.rows]
      · rw [ch_map]
        refine ⟨by rw [List.length_map]; have := lch other; omega, ?_⟩
        have l1 : ((one.ch b.rows).length ≤ 16777216) = True := eq_true (by have := lch one; omega)
        have l2 : ((other.ch b.rows).length ≤ 16777216) = True := eq_true (by have := lch other; omega)
        simp [c1, c2, sD, l1, l2]
        rw [sm _ 2 (tf_tup (by simp) (by intro x hx; simp only [List.mem_cons, List.not_mem_nil, or_false] at hx; rcases hx with rfl | rfl <;> exact tfc _)) (by omega)]
        simp
        rw [lcm D.str (fun x => decide (x ∈ other.ch b.rows)) D.str (by trivial) (one.ch b.rows)]
        · rw [ch_and hd one other]
          refine ⟨by rw [List.length_map]; have := lch (.and one other); omega, ?_⟩
          rw [lcm Row.d (fun r => (Wish.or one other).holds r.path r.marks) (fun r => .str r.path) (by trivial) b.rows]
          · rw [ch_map]
            refine ⟨by rw [List.length_map]; have := lch (.or one other); omega, ?_⟩
            rw [lcm Row.d (fun r => (Wish.not one).holds r.path r.marks) (fun r => .str r.path) (by trivial) b.rows]
            · rw [ch_map]
              refine ⟨by rw [List.length_map]; have := lch (.not one); omega, ?_⟩
              rw [c3, c4, c5]
              simp only [sD]
              rw [sm _ 2 (tf_tup (by simp) (by intro x hx; simp only [List.mem_cons, List.not_mem_nil, or_false] at hx; rcases hx with rfl | rfl | rfl <;> exact tfc _)) (by omega)]
              have hs1 := Wish.simp_deep one false
              have s1 := fun st P E => simple_eq (gc := gc) (st := st) (n := 59) chT.simple one (by omega) P E
              have s2 := fun st P E => simple_eq (gc := gc) (st := st) (n := 59) chT.simple (one.simp false) (by omega) P E
              rw [Wish.simp_simp] at s2
              simp [s1]
              refine wp_go (wishW_at lawT.draw lawT.pick g_wish 4 59 k3 _ (by omega) (by omega) rfl) ?_
              rintro _ _ ⟨third, k4, rfl, d3, _, hk4, rfl⟩
              have hs3 := Wish.simp_deep third false
              have s3 := fun st P E => simple_eq (gc := gc) (st := st) (n := 59) chT.simple (.not (.not third)) (by simp only [Wish.deep]; omega) P E
              simp [Wish.d, Wish.simp] at s3
              have s4 := fun st P E => wp_det (lsimple_at (gc := gc) g_lsimple third false 59 st (by omega)) P E
              have s5 := fun st P E => wp_det (lsimple_at (gc := gc) g_lsimple one false 59 st (by omega)) P E
              have s6 := sm (third.simp false).d 12 (Wish.tf _ _ (by omega)) (by omega)
              have s7 := sm (one.simp false).d 12 (Wish.tf _ _ (by omega)) (by omega)
              have s8 := fun st P E => is_simple_at (gc := gc) g_is_simple (one.simp false) 59 st P E (by omega)
              rw [Wish.simp_isS] at s8
              have s9 := fun st => eqT_refl (st := st) (Wish.fine (one.simp false) 20 (by omega)) (by omega)
              have c6 := fun st P E => chosen_at (gc := gc) (st := st) chT (show 7 < 59 by omega) hb (w := one.simp false) (by omega) P E
              have ee : ∀ r ∈ b.rows, one.holds r.path r.marks = (one.simp false).holds r.path r.marks := fun r _ => by rw [Wish.simp_holds]; cases one.holds r.path r.marks <;> rfl
              obtain ⟨e1, e2⟩ := ch_same ee
              rw [← e1] at c6
              have p0 := fun st P E => parting_at (gc := gc) (st := st) chT (show 7 < 59 by omega) hb (v := one) (w := one.simp false) (by omega) (by omega) P E
              rw [e2] at p0
              have p1 := fun st P E => parting_at (gc := gc) (st := st) chT (show 7 < 59 by omega) hb (v := one) (w := other) (by omega) (by omega) P E
              have p2 := fun st P E => parting_at (gc := gc) (st := st) chT (show 7 < 59 by omega) hb (v := other) (w := one) (by omega) (by omega) P E
              rw [parts_comm other one] at p2
              rw [find_filter] at p1 p2
              simp [s2, s3, s4, s5, s6, s7, s8, s9, c6, p0, sD, l1, pathO, isnon_non]
              rw [lcm D.str (fun x => decide (x ∉ (Wish.and one other).ch b.rows)) D.str (by trivial) ((Wish.or one other).ch b.rows)]
              · rw [apart_parts hd one other]
                refine ⟨by rw [List.length_map, List.length_map]; have := List.length_filter_le (parts one other) b.rows; omega, ?_⟩
                cases hf : b.rows.filter (parts one other) with
                | nil =>
                  rw [hf] at p1 p2
                  have q := sm .non 1 rfl (by omega)
                  simp [p1, p2, pathO, q]
                  omega
                | cons r rs =>
                  rw [hf] at p1 p2
                  have q := sm (.str r.path) 1 rfl (by omega)
                  simp [p1, p2, pathO, q]
                  omega
              · intro x hx P
                simp [wipeD]
              · intro x hx _ P
                simp [wipeD]
            · intro r hr P
              simp only [Wish.holds]
              rw [← ch_mem hd one hr]
              simp [wipeD, ix_row0]
            · intro r hr _ P
              simp [wipeD, ix_row0]
          · intro r hr P
            simp only [Wish.holds]
            rw [← ch_mem hd one hr, ← ch_mem hd other hr]
            simp [wipeD, ix_row0]
            by_cases h : r.path ∈ one.ch b.rows <;> simp [h]
          · intro r hr _ P
            simp [wipeD, ix_row0]
        · intro x hx P
          simp [wipeD]
        · intro x hx _ P
          simp [wipeD]
      · intro r hr P
        simp [wipeD, ix_row0, ix_row2, fun st P E => lholds_at (gc := gc) g_lholds other 59 st r.path r.marks P E (by omega)]
      · intro r hr _ P
        simp [wipeD, ix_row0]
    · intro r hr P
      simp [wipeD, ix_row0, ix_row2, fun st P E => lholds_at (gc := gc) g_lholds one 59 st r.path r.marks P E (by omega)]
    · intro r hr _ P
      simp [wipeD, ix_row0]
  · rintro _ _ ⟨kk, x2, x3, x4, x5, x6, x7, x8, x9, x10, x11, x12, x13, x14, x15, x16, x17, hl, hkk, rfl, rfl⟩
    simp
    exact fnQ_any (fun i e => by cases e) rfl rfl
  · exact ⟨0, none, none, none, none, none, none, none, none, none, none, none, none, none, none, none, none, by simp [rngL], by simp [rngL], rfl, rfl⟩
theorem hpure (ns : List Int) : ∃ st, cfN T gc 60 "law" [.scr ns] [] = some (.ok (.bl true), st) := by
  obtain ⟨d, st, h, rfl⟩ := wp_ok (law_pure ns)
  exact ⟨st, h⟩
theorem holds : PySem.Challenge.rw_trybook_k09_whole_tries_chosen.Holds := law_of (n := 60) (by omega) fun ns _ => hpure ns
end TBP

theorem PySem.Challenge.cw_trybook_k09_whole_tries_chosen_holds : PySem.Challenge.rw_trybook_k09_whole_tries_chosen.Holds := by
  exact TBP.holds
