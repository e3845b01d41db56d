import PyProof.Rows.All
import Wide.All
import OpenK.AllK
import Wide.FinOn
import HandS.ForMost
import HandS.Exc
import HandS.TryOnly
import HandS.ExcOwn
import HandS.Wide
import HandS.Flow
import HandS.Lambda
import KE.KDictKeyed
import KE.KeyNested
import KE.KDictDisplayH
import HandS.TupAny
import HandS.TupMul
import HandS.TupLe
import HandS.Style
import HandS.IsInst
import PyProof.ReprLen
import HandS.More
import HandS.ExcIs
import KE.GoesEnum
import HandS.Iter
import HandS.Zip0
import KE.SortData
import KE.DataMinMax
import HandS.Deep
import HandS.RaiseMore
import HandS.EndTab
import KE.KNest
import HandS.Strs
import HandS.Text
import PyProof.Rows.StrMul
import HandS.Dict
import HandS.Defaults
import PySem.Challenge.RW_askround_k07_what_holds
set_option Elab.async false
set_option linter.all false
set_option maxRecDepth 100000
/-! A layer of data over the hand layer: values are trees (PyData), things that may change are addresses. -/
namespace Dl
open PySem PySem.Spec PyProof.Rows L2

inductive W where
  | d (x : PyData)
  | ref (a : Addr)
  /-- a list that is read alone (the script) -/
  | scr (xs : List PyData)
  /-- a pair that a walk of zip or enumerate lays -/
  | pr (xs : List PyData)
abbrev XF := Option (List (Str × W))
inductive O where
  | lst (xs : List W)
  | ins (C : Addr) (fs : List (Str × W))
  /-- an exception that was caught -/
  | exc (cls : Value) (fs : XF)
  /-- dicts that change -/
  | dK (kvs : List (Key × W))
  | dN (P : Program) (w : World) (kvs : List (NestedKey × W))
  /-- a tuple of what may change -/
  | tup (ws : List W)
  /-- a table of code objects, all of this name -/
  | tbl (q : Str)
abbrev MH := Addr → Option O
def mset (M : MH) (a : Addr) (o : O) : MH := fun b => if b = a then some o else M b
theorem mset_same {M : MH} {a : Addr} {o : O} : mset M a o a = some o := if_pos rfl
theorem mset_ne {M : MH} {a b : Addr} {o : O} (h : b ≠ a) : mset M a o b = M b := if_neg h
def mdel (M : MH) (a : Addr) : MH := fun b => if b = a then none else M b
theorem mdel_same {M : MH} {a : Addr} : mdel M a a = none := if_pos rfl
theorem mdel_ne {M : MH} {a b : Addr} (h : b ≠ a) : mdel M a b = M b := if_neg h

def noH : Hp := fun _ => none
def FL (H : Hp) (M : MH) (a : Addr) (xs : List V) : Prop := H a = some (.lst xs) ∧ M a = none
def FS (K : PySem.W.Frag) (H : Hp) (M : MH) (a : Addr) (xs : List V) : Prop := (Rd H a (.lst xs) ∧ M a = none) ∨ SqL K noH a xs
/-- a tuple's object that has no dict of its own -/
def Sol (o : Obj) : Prop := o.cls = .type "tuple" ∧ o.dict = none
def FT (K : PySem.W.Frag) (H : Hp) (M : MH) (a : Addr) (xs : List V) : Prop := ((∃ o, H a = some (.frz o (.tup xs)) ∧ Sol o) ∧ M a = none) ∨
  ∃ (o : Obj) (its : Array Value) (n : Nat), K.lookup a = some o ∧ o.cls = .type "tuple" ∧ o.dict = none ∧ o.data = .seq its n ∧ its.size ≤ sizeLine ∧ Vals xs its.toList
theorem no_rd {a : Addr} {u : HO} (h : Rd noH a u) : False := by
  rcases h with h | ⟨o, h⟩ <;> cases h
theorem FL.sq {K : PySem.W.Frag} {H : Hp} {M : MH} {a : Addr} {xs : List V} (h : FL H M a xs) : SqL K H a xs := .inl (.inl h.1)
theorem FS.sq {K : PySem.W.Frag} {H : Hp} {M : MH} {a : Addr} {xs : List V} (h : FS K H M a xs) : SqL K H a xs := by
  rcases h with ⟨h, _⟩ | h
  · exact .inl h
  · rcases h with h | h
    · exact (no_rd h).elim
    · exact .inr h
theorem FT.sq {K : PySem.W.Frag} {H : Hp} {M : MH} {a : Addr} {xs : List V} (h : FT K H M a xs) : SqT K H a xs := by
  rcases h with ⟨⟨o, h, _⟩, _⟩ | ⟨o, its, n, h1, h2, _, h3⟩
  · exact .inl (.inr ⟨o, h⟩)
  · exact .inr ⟨o, its, n, h1, h2, h3⟩
def keyD : Key → PyData
  | .inl i => .int i
  | .inr x => .str x

mutual
/-- v is the datum, and what it is made of does not change any more -/
inductive Fz (K : PySem.W.Frag) (H : Hp) (M : MH) : V → PyData → Prop
  | non : Fz K H M .non .none
  | bl (b : Bool) : Fz K H M (.bl b) (.bool b)
  | int (i : Int) : Fz K H M (.int i) (.int i)
  | str (x : Str) : Fz K H M (.str x) (.str x)
  | lst {a : Addr} {xs : List V} {ds : List PyData} : FL H M a xs → FzA K H M xs ds → Fz K H M (.ref a) (.list ds)
  | tup {a : Addr} {xs : List V} {ds : List PyData} : FT K H M a xs → FzA K H M xs ds → Fz K H M (.ref a) (.tuple ds)
  | dK {a : Addr} {kvs : List (Key × V)} {ds : List (PyData × PyData)} : H a = some (.dK kvs) → M a = none → FzK K H M kvs ds → Fz K H M (.ref a) (.dict ds)
  | dT {a : Addr} {kvs : List (List Key × V)} {ds : List (PyData × PyData)} : H a = some (.dT kvs) → M a = none → FzT K H M kvs ds → Fz K H M (.ref a) (.dict ds)
inductive FzA (K : PySem.W.Frag) (H : Hp) (M : MH) : List V → List PyData → Prop
  | nil : FzA K H M [] []
  | cons {v : V} {d : PyData} {vs : List V} {ds : List PyData} : Fz K H M v d → FzA K H M vs ds → FzA K H M (v :: vs) (d :: ds)
inductive FzK (K : PySem.W.Frag) (H : Hp) (M : MH) : List (Key × V) → List (PyData × PyData) → Prop
  | nil : FzK K H M [] []
  | cons {k : Key} {v : V} {d : PyData} {vs : List (Key × V)} {ds : List (PyData × PyData)} : Fz K H M v d → FzK K H M vs ds → FzK K H M ((k, v) :: vs) ((keyD k, d) :: ds)
inductive FzT (K : PySem.W.Frag) (H : Hp) (M : MH) : List (List Key × V) → List (PyData × PyData) → Prop
  | nil : FzT K H M [] []
  | cons {k : List Key} {v : V} {d : PyData} {vs : List (List Key × V)} {ds : List (PyData × PyData)} : Fz K H M v d → FzT K H M vs ds → FzT K H M ((k, v) :: vs) ((.tuple (k.map keyD), d) :: ds)
end

/-- what does not change stays -/
def Ext (H : Hp) (M : MH) (H' : Hp) (M' : MH) : Prop := ∀ a o, H a = some o → M a = none → (∀ ps, o ≠ HO.tbl ps) → H' a = some o ∧ M' a = none
theorem Ext.at' {H H' : Hp} {M M' : MH} (e : Ext H M H' M') {a : Addr} {o : HO} (h : H a = some o) (m : M a = none) (nt : ∀ ps, o ≠ HO.tbl ps := by intro _ z; cases z) : H' a = some o ∧ M' a = none := e a o h m nt
theorem Ext.refl (H : Hp) (M : MH) : Ext H M H M := fun _ _ h m _ => ⟨h, m⟩
theorem Ext.trans {H H1 H2 : Hp} {M M1 M2 : MH} (e : Ext H M H1 M1) (f : Ext H1 M1 H2 M2) : Ext H M H2 M2 := fun a o h m nt =>
  let ⟨h1, m1⟩ := e a o h m nt
  f a o h1 m1 nt

section
variable {K : PySem.W.Frag} {H H' : Hp} {M M' : MH}
theorem Ext.rd (e : Ext H M H' M') {a : Addr} {u : HO} (h : Rd H a u) (m : M a = none) (nt : ∀ ps, u ≠ HO.tbl ps := by intro _ z; cases z) : Rd H' a u ∧ M' a = none := by
  rcases h with h | ⟨o, h⟩
  · exact ⟨.inl (e a _ h m nt).1, (e a _ h m nt).2⟩
  · exact ⟨.inr ⟨o, (e.at' h m).1⟩, (e.at' h m).2⟩
theorem FL.ext (e : Ext H M H' M') {a : Addr} {xs : List V} (h : FL H M a xs) : FL H' M' a xs := e.at' h.1 h.2
theorem FS.ext (e : Ext H M H' M') {a : Addr} {xs : List V} (h : FS K H M a xs) : FS K H' M' a xs := by
  rcases h with ⟨h, m⟩ | h
  · exact .inl (e.rd h m)
  · exact .inr h
theorem FT.ext (e : Ext H M H' M') {a : Addr} {xs : List V} (h : FT K H M a xs) : FT K H' M' a xs := by
  rcases h with ⟨⟨o, h, so⟩, m⟩ | h
  · exact .inl ⟨⟨o, (e.at' h m).1, so⟩, (e.at' h m).2⟩
  · exact .inr h
mutual
theorem Fz.ext (e : Ext H M H' M') : ∀ (d : PyData) (v : V), Fz K H M v d → Fz K H' M' v d
  | .none, _, h => by cases h; exact .non
  | .bool b, _, h => by cases h; exact .bl b
  | .int i, _, h => by cases h; exact .int i
  | .str x, _, h => by cases h; exact .str x
  | .list ds, _, h => by cases h with | lst h1 h2 => exact .lst (h1.ext e) (FzA.ext e ds _ h2)
  | .tuple ds, _, h => by cases h with | tup h1 h2 => exact .tup (h1.ext e) (FzA.ext e ds _ h2)
  | .dict ds, _, h => by
    cases h with
    | dK h1 h2 h3 => exact .dK (e.at' h1 h2).1 (e.at' h1 h2).2 (FzK.ext e ds _ h3)
    | dT h1 h2 h3 => exact .dT (e.at' h1 h2).1 (e.at' h1 h2).2 (FzT.ext e ds _ h3)
theorem FzA.ext (e : Ext H M H' M') : ∀ (ds : List PyData) (vs : List V), FzA K H M vs ds → FzA K H' M' vs ds
  | [], _, h => by cases h; exact .nil
  | d :: ds, _, h => by cases h with | cons h1 h2 => exact .cons (Fz.ext e d _ h1) (FzA.ext e ds _ h2)
theorem FzK.ext (e : Ext H M H' M') : ∀ (ds : List (PyData × PyData)) (vs : List (Key × V)), FzK K H M vs ds → FzK K H' M' vs ds
  | [], _, h => by cases h; exact .nil
  | (k, d) :: ds, _, h => by cases h with | cons h1 h2 => exact .cons (Fz.ext e d _ h1) (FzK.ext e ds _ h2)
theorem FzT.ext (e : Ext H M H' M') : ∀ (ds : List (PyData × PyData)) (vs : List (List Key × V)), FzT K H M vs ds → FzT K H' M' vs ds
  | [], _, h => by cases h; exact .nil
  | (k, d) :: ds, _, h => by cases h with | cons h1 h2 => exact .cons (Fz.ext e d _ h1) (FzT.ext e ds _ h2)
end
end

def Wv (K : PySem.W.Frag) (H : Hp) (M : MH) (v : V) : W → Prop
  | .d x => Fz K H M v x
  | .ref a => v = .ref a
  | .scr ds => ∃ a xs, v = .ref a ∧ FS K H M a xs ∧ FzA K H M xs ds
  | .pr ds => ∃ a xs, v = .ref a ∧ (Rd H a (.tup xs) ∧ M a = none) ∧ FzA K H M xs ds
abbrev WvA (K : PySem.W.Frag) (H : Hp) (M : MH) : List V → List W → Prop := Paired (Wv K H M)
def WvF (K : PySem.W.Frag) (H : Hp) (M : MH) : List (Str × V) → List (Str × W) → Prop := Paired fun p q => p.1 = q.1 ∧ Wv K H M p.2 q.2
section
variable {K : PySem.W.Frag} {H H' : Hp} {M M' : MH}
theorem Wv.ext (e : Ext H M H' M') {v : V} {w : W} (h : Wv K H M v w) : Wv K H' M' v w := by
  cases w with
  | d x => exact Fz.ext e x v h
  | ref a => exact h
  | scr ds => obtain ⟨a, xs, h1, h2, h3⟩ := h; exact ⟨a, xs, h1, h2.ext e, FzA.ext e ds xs h3⟩
  | pr ds => obtain ⟨a, xs, h1, h2, h3⟩ := h; exact ⟨a, xs, h1, e.rd h2.1 h2.2, FzA.ext e ds xs h3⟩
theorem WvA.ext (e : Ext H M H' M') {vs : List V} {ws : List W} (h : WvA K H M vs ws) : WvA K H' M' vs ws := Paired.mapP h fun _ _ x => Wv.ext e x
theorem WvF.ext (e : Ext H M H' M') {vs : List (Str × V)} {ws : List (Str × W)} (h : WvF K H M vs ws) : WvF K H' M' vs ws := Paired.mapP h fun _ _ x => ⟨x.1, Wv.ext e x.2⟩
theorem FzA.wv : ∀ {vs : List V} {ds : List PyData}, FzA K H M vs ds → WvA K H M vs (ds.map W.d)
  | _, _, .nil => .nil
  | _, _, .cons h1 h2 => .cons h1 h2.wv
theorem FzA.of_wv : ∀ {vs : List V} {ds : List PyData}, WvA K H M vs (ds.map W.d) → FzA K H M vs ds
  | _, [], h => by cases h; exact .nil
  | _, d :: ds, h => by cases h with | cons h1 h2 => exact .cons h1 (FzA.of_wv h2)
theorem FzA.length : ∀ {vs : List V} {ds : List PyData}, FzA K H M vs ds → vs.length = ds.length
  | _, _, .nil => rfl
  | _, _, .cons _ h2 => by simp [h2.length]
theorem FzA.get : ∀ {vs : List V} {ds : List PyData} {i : Nat} {d : PyData}, FzA K H M vs ds → ds[i]? = some d → ∃ v, vs[i]? = some v ∧ Fz K H M v d
  | _, _, _, _, .nil, e => by simp at e
  | _, _, 0, _, .cons h1 _, e => by simp at e; subst e; exact ⟨_, rfl, h1⟩
  | _, _, i + 1, d, .cons _ h2, e => by
    obtain ⟨v, e1, e2⟩ := FzA.get (i := i) (d := d) h2 (by simpa using e)
    exact ⟨v, by simpa using e1, e2⟩
theorem FzA.append : ∀ {vs ws : List V} {ds es : List PyData}, FzA K H M vs ds → FzA K H M ws es → FzA K H M (vs ++ ws) (ds ++ es)
  | _, _, _, _, .nil, h => h
  | _, _, _, _, .cons h1 h2, h => .cons h1 (h2.append h)
theorem FzA.take : ∀ {vs : List V} {ds : List PyData} (n : Nat), FzA K H M vs ds → FzA K H M (vs.take n) (ds.take n)
  | _, _, 0, _ => .nil
  | _, _, _ + 1, .nil => .nil
  | _, _, n + 1, .cons h1 h2 => .cons h1 (h2.take n)
theorem FzA.drop : ∀ {vs : List V} {ds : List PyData} (n : Nat), FzA K H M vs ds → FzA K H M (vs.drop n) (ds.drop n)
  | _, _, 0, h => h
  | _, _, _ + 1, .nil => .nil
  | _, _, n + 1, .cons _ h2 => h2.drop n
end

def WvK (K : PySem.W.Frag) (H : Hp) (M : MH) : List (Key × V) → List (Key × W) → Prop := Paired fun p q => p.1 = q.1 ∧ Wv K H M p.2 q.2
theorem WvK.ext {K : PySem.W.Frag} {H H' : Hp} {M M' : MH} (e : Ext H M H' M') {vs : List (Key × V)} {ws : List (Key × W)} (h : WvK K H M vs ws) : WvK K H' M' vs ws := Paired.mapP h fun _ _ x => ⟨x.1, Wv.ext e x.2⟩
/-- a dict with keys of tuples, by its entries -/
def DctN (P : Program) (w : World) (xs : List (NestedKey × Addr × Value)) (a : Addr) : HO := .ext fun h => ∃ (o : Obj) (es : Array DictEntry) (ep : Nat), h.get? a = some o ∧ o.ExactDict ∧ o.data = .dict es ep ∧ es.toList = xs.map (entryOfKey (nestedKind P w))
def RN (K : PySem.W.Frag) (H : Hp) (M : MH) (x : NestedKey × Addr × Value) (q : NestedKey × W) : Prop := x.1 = q.1 ∧ Fz K H M (.ref x.2.1) q.1.data ∧ q.1.depth ≤ 8 ∧ ∃ v, RelV v x.2.2 ∧ Wv K H M v q.2
theorem RN.ext {K : PySem.W.Frag} {H H' : Hp} {M M' : MH} (e : Ext H M H' M') {x : NestedKey × Addr × Value} {q : NestedKey × W} (h : RN K H M x q) : RN K H' M' x q := by
  obtain ⟨h1, h2, h3, v, h4, h5⟩ := h
  exact ⟨h1, Fz.ext e _ _ h2, h3, v, h4, Wv.ext e h5⟩
/-- the fields of an exception -/
def XFs (K : PySem.W.Frag) (H : Hp) (M : MH) (d : Option Addr) (fs : XF) : Prop :=
  match d, fs with
  | none, none => True
  | some dx, some fs => ∃ vs, H dx = some (.xd vs) ∧ M dx = none ∧ WvF K H M vs fs
  | _, _ => False
theorem XFs.ext {K : PySem.W.Frag} {H H' : Hp} {M M' : MH} (e : Ext H M H' M') {d : Option Addr} {fs : XF} (h : XFs K H M d fs) : XFs K H' M' d fs := by
  cases d with
  | none => cases fs with
    | none => trivial
    | some _ => exact h.elim
  | some dx => cases fs with
    | none => exact h.elim
    | some fs =>
      obtain ⟨vs, h1, h2, h3⟩ := h
      exact ⟨vs, (e.at' h1 h2).1, (e.at' h1 h2).2, WvF.ext e h3⟩
/-- an exception object that stays as it is -/
def ExL (cls : Value) (d : Option Addr) (a : Addr) : HO := .ext fun h => ∃ (oe : Obj) (vs : Array Value), h.get? a = some oe ∧ Zc cls d oe ∧ oe.data = .fields vs
theorem exL_ok {P : Program} {w : World} {H : Hp} {h : Heap} {a : Addr} {cls : Value} {d : Option Addr} {oe : Obj} {vs : Array Value} (e : h.get? a = some oe) (z : Zc cls d oe) (dt : oe.data = .fields vs) : ObjOk P w H h a (ExL cls d a) :=
  ⟨⟨oe, vs, e, z, dt⟩, ⟨oe, e⟩, fun _ _ ⟨o, v, q, r⟩ k => ⟨o, v, k o q, r⟩⟩

/-- what a table of code objects holds -/
def TblOk (H : Hp) (M : MH) (a : Addr) (q : Str) : Prop := ∃ ps : Array Value, H a = some (.tbl ps) ∧ TriplesOk ps.toList ∧ ∀ (pos : Pos) (cv : Value), codeAmong pos ps.toList = some cv → ∃ c, cv = .ref c ∧ H c = some (LamX.CodeO c q) ∧ M c = none
/-- the heap of things that may change is held -/
def OkO (K : PySem.W.Frag) (H : Hp) (M : MH) (a : Addr) : O → Prop
  | .lst ws => ∃ xs, H a = some (.lst xs) ∧ WvA K H M xs ws
  | .ins C fs => ∃ dx vs, H a = some (.ins C dx vs) ∧ WvF K H M vs fs
  | .exc cls fs => ∃ d, H a = some (ExL cls d a) ∧ XFs K H M d fs
  | .dK kvs => ∃ vs, H a = some (.dK vs) ∧ WvK K H M vs kvs
  | .dN P w kvs => ∃ xs, H a = some (DctN P w xs a) ∧ kvs.length ≤ sizeLine ∧ (a == sysModules) = false ∧ (kvs.map (·.1)).Nodup ∧ Paired (RN K H M) xs kvs
  | .tup ws => ∃ xs, H a = some (.tup xs) ∧ WvA K H M xs ws
  | .tbl q => TblOk H M a q
def Dok (K : PySem.W.Frag) (H : Hp) (M : MH) : Prop := ∀ a o, M a = some o → OkO K H M a o
theorem Dok.there {K : PySem.W.Frag} {H : Hp} {M : MH} (h : Dok K H M) {a : Addr} {o : O} (e : M a = some o) : ∃ u, H a = some u := by
  have q := h a o e
  cases o with
  | lst ws => obtain ⟨xs, q, _⟩ := q; exact ⟨_, q⟩
  | ins C fs => obtain ⟨dx, vs, q, _⟩ := q; exact ⟨_, q⟩
  | exc cls fs => obtain ⟨d, q, _⟩ := q; exact ⟨_, q⟩
  | dK kvs => obtain ⟨vs, q, _⟩ := q; exact ⟨_, q⟩
  | dN P w kvs => obtain ⟨vs, q, _⟩ := q; exact ⟨_, q⟩
  | tup ws => obtain ⟨xs, q, _⟩ := q; exact ⟨_, q⟩
  | tbl n => obtain ⟨ps, q, _⟩ := q; exact ⟨_, q⟩
theorem Dok.free {K : PySem.W.Frag} {H : Hp} {M : MH} (h : Dok K H M) {a : Addr} (e : H a = none) : M a = none := by
  cases q : M a with
  | none => rfl
  | some o =>
    obtain ⟨u, z⟩ := h.there q
    rw [e] at z
    cases z
section
variable {K : PySem.W.Frag} {H H' : Hp} {M M' : MH} {a : Addr}
/-- a new frozen object -/
theorem ext_new (n : H a = none) (m : M a = none) {o : HO} : Ext H M (upd H a o) M := fun b u h m' _ => ⟨by rw [upd_ne (ne_of_none h n)]; exact h, m'⟩
theorem OkO.ext (e : Ext H M H' M') (hH : ∀ u, H a = some u → H' a = some u) {o : O} (h : OkO K H M a o) : OkO K H' M' a o := by
  cases o with
  | lst ws => obtain ⟨xs, q, r⟩ := h; exact ⟨xs, hH _ q, WvA.ext e r⟩
  | ins C fs => obtain ⟨dx, vs, q, r⟩ := h; exact ⟨dx, vs, hH _ q, WvF.ext e r⟩
  | exc cls fs => obtain ⟨d, q, r⟩ := h; exact ⟨d, hH _ q, r.ext e⟩
  | dK kvs => obtain ⟨vs, q, r⟩ := h; exact ⟨vs, hH _ q, WvK.ext e r⟩
  | dN P w kvs => obtain ⟨vs, q, r1, r2, r3, r⟩ := h; exact ⟨vs, hH _ q, r1, r2, r3, Paired.mapP r fun _ _ z => z.ext e⟩
  | tup ws => obtain ⟨xs, q, r⟩ := h; exact ⟨xs, hH _ q, WvA.ext e r⟩
  | tbl n =>
    obtain ⟨ps, q, t, r⟩ := h
    refine ⟨ps, hH _ q, t, fun pos cv hc => ?_⟩
    obtain ⟨c, h1, h2, h3⟩ := r pos cv hc
    obtain ⟨g1, g2⟩ := e.at' h2 h3 LamX.codeO_ne
    exact ⟨c, h1, g1, g2⟩
theorem dok_new (D : Dok K H M) (n : H a = none) {o : HO} : Dok K (upd H a o) M := fun b u e =>
  (D b u e).ext (ext_new n (D.free n)) fun v h => by rw [upd_ne (ne_of_none h n)]; exact h
/-- a new object that may change, or an old one changed -/
theorem ext_mut {o : HO} {u : O} (m : M a ≠ none ∨ H a = none) : Ext H M (upd H a o) (mset M a u) := fun b v h m' _ => by
  have hb : b ≠ a := by
    rintro rfl
    rcases m with m | m
    · exact m m'
    · rw [m] at h; cases h
  exact ⟨by rw [upd_ne hb]; exact h, by rw [mset_ne hb]; exact m'⟩
theorem dok_mut (D : Dok K H M) {o : HO} {u : O} (m : M a ≠ none ∨ H a = none) (k : Ext H M (upd H a o) (mset M a u) → OkO K (upd H a o) (mset M a u) a u) : Dok K (upd H a o) (mset M a u) := fun b v e => by
  have X := ext_mut (o := o) (u := u) m
  by_cases hb : b = a
  · subst hb
    rw [mset_same] at e
    cases e
    exact k X
  · rw [mset_ne hb] at e
    exact (D b v e).ext X fun w h => by rw [upd_ne hb]; exact h
/-- fewer things may change -/
theorem ext_less (h : ∀ b o, M' b = some o → M b = some o) : Ext H M H M' := fun b o e m _ => ⟨e, by
  cases q : M' b with
  | none => rfl
  | some o => rw [h b o q] at m; cases m⟩
theorem dok_less (D : Dok K H M) (h : ∀ b o, M' b = some o → M b = some o) : Dok K H M' := fun b o e => (D b o (h b o e)).ext (ext_less h) fun _ z => z
theorem mdel_less : ∀ b o, mdel M a b = some o → M b = some o := fun b o e => by
  by_cases hb : b = a
  · subst hb
    rw [mdel_same] at e
    cases e
  · rw [mdel_ne hb] at e
    exact e
end

/-! ### slots -/
abbrev SD := List (Option W)
def Slots (K : PySem.W.Frag) (H : Hp) (M : MH) : L2.St → SD → Prop := Paired fun a b => ∀ w, b = some w → ∃ v, a = some v ∧ Wv K H M v w
section
variable {K : PySem.W.Frag} {H H' : Hp} {M M' : MH}
theorem Slots.ext (e : Ext H M H' M') {s : L2.St} {σ : SD} (h : Slots K H M s σ) : Slots K H' M' s σ := Paired.mapP h fun _ _ q w hw =>
  let ⟨v, h1, h2⟩ := q w hw
  ⟨v, h1, Wv.ext e h2⟩
theorem Slots.get : ∀ {s : L2.St} {σ : SD} {i : Nat} {w : W}, Slots K H M s σ → σ[i]? = some (some w) → ∃ v, s[i]? = some (some v) ∧ Wv K H M v w
  | _, _, _, _, .nil, e => by simp at e
  | _, _, 0, w, .cons r _, e => by
    simp at e
    obtain ⟨v, h1, h2⟩ := r w e
    exact ⟨v, by simp [h1], h2⟩
  | _, _, i + 1, w, .cons _ t, e => by
    obtain ⟨v, h1, h2⟩ := Slots.get (i := i) (w := w) t (by simpa using e)
    exact ⟨v, by simpa using h1, h2⟩
theorem Slots.set {v : V} {w : W} (r : Wv K H M v w) : ∀ {s : L2.St} {σ : SD} (i : Nat), Slots K H M s σ → Slots K H M (s.set i (some v)) (σ.set i (some w))
  | _, _, _, .nil => .nil
  | _, _, 0, .cons _ t => .cons (fun w' e => ⟨v, rfl, by cases e; exact r⟩) t
  | _, _, i + 1, .cons q t => .cons q (Slots.set r i t)
theorem Slots.wipe1 : ∀ {s : L2.St} {σ : SD} (i : Nat), Slots K H M s σ → Slots K H M (s.set i none) (σ.set i none)
  | _, _, _, .nil => .nil
  | _, _, 0, .cons _ t => .cons (fun w' e => by cases e) t
  | _, _, i + 1, .cons q t => .cons q (Slots.wipe1 i t)
theorem Slots.length {s : L2.St} {σ : SD} (h : Slots K H M s σ) : s.length = σ.length := Paired.length h
end
def wipeD (σ : SD) : List Nat → SD
  | [] => σ
  | v :: vs => (wipeD σ vs).set v none
theorem Slots.wipe {K : PySem.W.Frag} {H : Hp} {M : MH} {s : L2.St} {σ : SD} (h : Slots K H M s σ) : ∀ vs : List Nat, Slots K H M (L2.wipe s vs) (wipeD σ vs)
  | [] => h
  | v :: vs => Slots.wipe1 v (Slots.wipe h vs)
theorem slots_start {K : PySem.W.Frag} {H : Hp} {M : MH} : ∀ {vs : List V} {ws : List W} (n : Nat), WvA K H M vs ws → Slots K H M (vs.map some ++ List.replicate n none) (ws.map some ++ List.replicate n none)
  | _, _, n, .nil => by
    show Slots K H M (List.replicate n none) (List.replicate n none)
    induction n with
    | zero => exact .nil
    | succ n ih => exact .cons (fun w e => by cases e) ih
  | _, _, n, .cons r t => .cons (fun w e => ⟨_, rfl, by cases e; exact r⟩) (slots_start n t)
end Dl
set_option Elab.async false
set_option linter.all false
set_option maxRecDepth 100000
namespace Dl
open PySem PySem.Spec PyProof.Rows L2

/-! ### contexts -/
structure Gc where
  P : Program
  w : World
  K : PySem.W.Frag
  mg : Str → Option Value
  base : Heap
structure Si where
  sc : Scope
  N : List Str
  vis : List Nat
  loc : List Nat
  cel : List Nat
  gls : List Str
  /-- run where an exception may be handled -/
  hot : Bool := false
  /-- the block of a comprehension -/
  blk : Bool := false
abbrev XD := Value → XF → MH → Prop
structure Dx where
  X : Cx
  H0 : Hp
  M0 : MH
  wd : Value → XF → SD → MH → Prop
structure Std (Y : Dx) (s : L2.St) (H : Hp) (σ : SD) (M : MH) : Prop where
  e : Ext Y.H0 Y.M0 H M
  d : Dok Y.X.K H M
  s : Slots Y.X.K H M s σ
def upX (Y : Dx) (wd : Value → XF → SD → MH → Prop) : WX := fun cls d s H => ∃ σ M fs, Std Y s H σ M ∧ XFs Y.X.K H M d fs ∧ wd cls fs σ M
def visOk (N : List Str) (sc : Scope) (l : List Nat) : Bool := l.all fun i => match N[i]? with
  | some x => (match sc.names.lookup x with | some .local => true | some .cell => true | some .free => true | _ => false) && (x == ("__debug__" : Str)) == false && (x == ("__classdict__" : Str)) == false
  | none => false
def kindOk (N : List Str) (sc : Scope) (k : NameKind) (l : List Nat) : Bool := l.all fun i => match N[i]? with
  | some x => decide (sc.names.lookup x = some k)
  | none => false
def gloOk (sc : Scope) (l : List Str) : Bool := l.all fun x => decide (sc.names.lookup x = some .globalImplicit) && (x == ("__debug__" : Str)) == false && decide (x ≠ "__name__")

/-- sys.modules stands where it stands -/
def SysOk (h : Heap) : Prop := ∃ o es n, h.get? sysModules = some o ∧ o.data = .dict es n
/-- there is room -/
structure RmH (k : Nat) (A : Around) : Prop where
  dp : A.depth + 3 * k + 5 < recursionLimit
  un : A.units + 16 * k + 200 < cLine
theorem RmH.mono {j k : Nat} {A : Around} (r : RmH k A) (h : j ≤ k) : RmH j A := ⟨by have := r.dp; omega, by have := r.un; omega⟩
theorem RmH.deeper {k : Nat} {A : Around} (r : RmH (k + 1) A) (env : Env) : RmH k (A.deeper env) :=
  ⟨by have := r.dp; show A.depth + 1 + 3 * k + 5 < _; omega, by have := r.un; show A.units + 3 + 16 * k + 200 < _; omega⟩
theorem RmH.depth {k : Nat} {A : Around} (r : RmH k A) : A.depth < recursionLimit := by have := r.dp; omega
structure Fm (g : Gc) (i : Si) (k : Nat) (Y : Dx) : Prop where
  hP : Y.X.prog = g.P
  hw : Y.X.w = g.w
  hK : Y.X.K = g.K
  hmg : Y.X.mg = g.mg
  hb : Y.X.base = g.base
  N : Y.X.N = i.N
  hsc : Y.X.env.scope = i.sc
  nd : i.N.Nodup
  calm : i.hot = false → Y.X.calm = true
  hd : i.hot = false → Y.X.A.handled = none
  gd : Y.X.A.guards = some []
  room : RmH k Y.X.A
  fr : i.blk = false → Y.X.stack = Y.X.env :: Y.X.outer ∧ Y.X.env.frame = some Y.X.env.locals
  var : ∀ j x, i.vis.contains j = true → i.N[j]? = some x → Vis Y.X.env.scope x ∧ (x == ("__debug__" : Str)) = false ∧ (x == ("__classdict__" : Str)) = false
  loc : ∀ j x, i.loc.contains j = true → i.N[j]? = some x → Y.X.env.scope.names.lookup x = some .local
  cel : ∀ j x, i.cel.contains j = true → i.N[j]? = some x → Y.X.env.scope.names.lookup x = some .cell ∧ Y.X.fn x = true
  glo : ∀ (j : Nat) x, i.gls[j]? = some x → Gl Y.X x ∧ (x == ("__debug__" : Str)) = false ∧ x ≠ "__name__"
  sy : SysOk Y.X.base
  tk : Takes Y.X (upX Y Y.wd)
  po : PassesOwn (model Y.X.prog Y.X.w) Y.X.A Y.X.env Y.X.xe

/-! ### what code means -/
def semE (X : Cx) (e : Expr) : TE := fun s H Q => ∀ pins sh, Inv X pins s H sh → wpAny (model X.prog X.w) X.A (eval e X.env) (EP X pins s Q) X.xe sh
theorem pe_sem {X : Cx} {e : Expr} : PE X e (semE X e) := ⟨fun pins s _ _ _ I h => h pins s I⟩
theorem semE_of {X : Cx} {e : Expr} {t : TE} (h : PE X e t) {s : L2.St} {H : Hp} {Q : VK} (q : t s H Q) : semE X e s H Q := fun pins sh I => h.run pins sh s H Q I q
theorem semE_mono {X : Cx} {e : Expr} {s : L2.St} {H : Hp} {Q Q' : VK} (h : semE X e s H Q) (k : ∀ v H', Q v H' → Q' v H') : semE X e s H Q' := fun pins sh I =>
  thn (h pins sh I) fun _ _ ⟨v, H', I', r, q⟩ => ⟨v, H', I', r, k v H' q⟩
def semT (X : Cx) (e : Expr) : TT := fun s H Q => ∀ pins sh, Inv X pins s H sh → wpAny (model X.prog X.w) X.A (isTrue e X.env (eval e X.env)) (TP X pins s Q) X.xe sh
theorem pt_sem {X : Cx} {e : Expr} : PT X e (semT X e) := ⟨fun pins s _ _ _ I h => h pins s I⟩
theorem semT_of {X : Cx} {e : Expr} {t : TT} (h : PT X e t) {s : L2.St} {H : Hp} {Q : Bool → Hp → Prop} (q : t s H Q) : semT X e s H Q := fun pins sh I => h.run pins sh s H Q I q
theorem semT_mono {X : Cx} {e : Expr} {s : L2.St} {H : Hp} {Q Q' : Bool → Hp → Prop} (h : semT X e s H Q) (k : ∀ v H', Q v H' → Q' v H') : semT X e s H Q' := fun pins sh I =>
  thn (h pins sh I) fun _ _ ⟨H', I', q⟩ => ⟨H', I', k _ H' q⟩
def semW (X : Cx) (e : Expr) : TT := fun s H Q => ∀ (whole : Sem Value) pins sh, Inv X pins s H sh → wpAny (model X.prog X.w) X.A (isTrue e X.env whole) (TP X pins s Q) X.xe sh
theorem pw_sem {X : Cx} {e : Expr} : PW X e (semW X e) := ⟨fun wh pins s _ _ _ I h => h wh pins s I⟩
theorem semW_of {X : Cx} {e : Expr} {t : TT} (h : PW X e t) {s : L2.St} {H : Hp} {Q : Bool → Hp → Prop} (q : t s H Q) : semW X e s H Q := fun wh pins sh I => h.run wh pins sh s H Q I q
def semA (X : Cx) (es : List Expr) : TA := fun s H Q => ∀ (pos : Pos) pins sh, Inv X pins s H sh → wpAny (model X.prog X.w) X.A (spliced (backTo pos (starEach es X.env))) (AP X pins s Q) X.xe sh
theorem pa_sem {X : Cx} {es : List Expr} : PA X es (semA X es) := ⟨fun pos pins s _ _ _ I h => h pos pins s I⟩
theorem semA_of {X : Cx} {es : List Expr} {t : TA} (h : PA X es t) {s : L2.St} {H : Hp} {Q : List V → Hp → Prop} (q : t s H Q) : semA X es s H Q := fun pos pins sh I => h.run pos pins sh s H Q I q
theorem semA_mono {X : Cx} {es : List Expr} {s : L2.St} {H : Hp} {Q Q' : List V → Hp → Prop} (h : semA X es s H Q) (k : ∀ v H', Q v H' → Q' v H') : semA X es s H Q' := fun pos pins sh I =>
  thn (h pos pins sh I) fun _ _ ⟨v, H', I', r, q⟩ => ⟨v, H', I', r, k v H' q⟩
def semS (X : Cx) (st : Stmt) : TS := fun D s H => ∀ pins sh, Inv X pins s H sh → wpAny (model X.prog X.w) X.A (exec st X.env) (SP X pins D) X.xe sh
theorem ps_sem {X : Cx} {st : Stmt} : PS X st (semS X st) := ⟨fun pins s _ _ _ I h => h pins s I⟩
theorem semS_of {X : Cx} {st : Stmt} {t : TS} (h : PS X st t) {s : L2.St} {H : Hp} {D : Ends} (q : t D s H) : semS X st D s H := fun pins sh I => h.run pins sh s H D I q
def semSs (X : Cx) (st : List Stmt) : TS := fun D s H => ∀ pins sh, Inv X pins s H sh → wpAny (model X.prog X.w) X.A (execs st X.env) (SP X pins D) X.xe sh
theorem pss_sem {X : Cx} {st : List Stmt} : PSs X st (semSs X st) := ⟨fun pins s _ _ _ I h => h pins s I⟩
theorem semSs_of {X : Cx} {st : List Stmt} {t : TS} (h : PSs X st t) {s : L2.St} {H : Hp} {D : Ends} (q : t D s H) : semSs X st D s H := fun pins sh I => h.run pins sh s H D I q
theorem SP.mono {X : Cx} {pins : List (Addr × Obj)} {D D' : Ends} {f : Flow} {s' : Shared} (h : SP X pins D f s') (h1 : ∀ σ H, D.nx σ H → D'.nx σ H) (h2 : ∀ v H, D.rt v H → D'.rt v H) (h3 : ∀ σ H, D.bk σ H → D'.bk σ H) (h4 : ∀ σ H, D.ct σ H → D'.ct σ H) : SP X pins D' f s' := by
  cases f with
  | next => obtain ⟨σ', H', I, q⟩ := h; exact ⟨σ', H', I, h1 _ _ q⟩
  | brk => obtain ⟨σ', H', I, q⟩ := h; exact ⟨σ', H', I, h3 _ _ q⟩
  | cont => obtain ⟨σ', H', I, q⟩ := h; exact ⟨σ', H', I, h4 _ _ q⟩
  | ret u => obtain ⟨v, σ', H', I, r, q⟩ := h; exact ⟨v, σ', H', I, r, h2 _ _ q⟩

/-! ### readings over data -/
abbrev TEd := SD → MH → (W → MH → Prop) → Prop
abbrev TTd := SD → MH → (Bool → MH → Prop) → Prop
abbrev TAd := SD → MH → (List W → MH → Prop) → Prop
structure EndsD where
  nx : SD → MH → Prop
  rt : W → MH → Prop
  bk : SD → MH → Prop := fun _ _ => False
  ct : SD → MH → Prop := fun _ _ => False
abbrev TSd := EndsD → SD → MH → Prop

/-- behind (H, M) -/
def up (Y : Dx) (H : Hp) (M : MH) (Q : W → MH → Prop) : VK := fun v H' => ∃ w M', Ext H M H' M' ∧ Dok Y.X.K H' M' ∧ Wv Y.X.K H' M' v w ∧ Q w M'
def upB (Y : Dx) (H : Hp) (M : MH) (Q : Bool → MH → Prop) : Bool → Hp → Prop := fun b H' => ∃ M', Ext H M H' M' ∧ Dok Y.X.K H' M' ∧ Q b M'
def upA (Y : Dx) (H : Hp) (M : MH) (Q : List W → MH → Prop) : List V → Hp → Prop := fun vs H' => ∃ ws M', Ext H M H' M' ∧ Dok Y.X.K H' M' ∧ WvA Y.X.K H' M' vs ws ∧ Q ws M'
def upS (Y : Dx) (H : Hp) (M : MH) (Q : SD → MH → Prop) : L2.St → Hp → Prop := fun s H' => ∃ σ M', Ext H M H' M' ∧ Std Y s H' σ M' ∧ Q σ M'
def upD (Y : Dx) (H : Hp) (M : MH) (D : EndsD) : Ends := { nx := upS Y H M D.nx, rt := up Y H M D.rt, bk := upS Y H M D.bk, ct := upS Y H M D.ct }

structure QE (Y : Dx) (e : Expr) (t : TEd) : Prop where
  run : ∀ s H σ M Q, Std Y s H σ M → t σ M Q → semE Y.X e s H (up Y H M Q)
structure QT (Y : Dx) (e : Expr) (t : TTd) : Prop where
  run : ∀ s H σ M Q, Std Y s H σ M → t σ M Q → semT Y.X e s H (upB Y H M Q)
structure QW (Y : Dx) (e : Expr) (t : TTd) : Prop where
  run : ∀ s H σ M Q, Std Y s H σ M → t σ M Q → semW Y.X e s H (upB Y H M Q)
structure QA (Y : Dx) (es : List Expr) (t : TAd) : Prop where
  run : ∀ s H σ M Q, Std Y s H σ M → t σ M Q → semA Y.X es s H (upA Y H M Q)
structure QS (Y : Dx) (st : Stmt) (t : TSd) : Prop where
  run : ∀ s H σ M D, Std Y s H σ M → t D σ M → semS Y.X st (upD Y H M D) s H
structure QSs (Y : Dx) (st : List Stmt) (t : TSd) : Prop where
  run : ∀ s H σ M D, Std Y s H σ M → t D σ M → semSs Y.X st (upD Y H M D) s H

section
variable {Y : Dx} {s : L2.St} {H H1 : Hp} {σ : SD} {M M1 : MH}
theorem Std.go (S : Std Y s H σ M) (e : Ext H M H1 M1) (d : Dok Y.X.K H1 M1) : Std Y s H1 σ M1 := ⟨S.e.trans e, d, S.s.ext e⟩
theorem Std.set (S : Std Y s H σ M) {v : V} {w : W} (r : Wv Y.X.K H M v w) (i : Nat) : Std Y (s.set i (some v)) H (σ.set i (some w)) M := ⟨S.e, S.d, S.s.set r i⟩
theorem up.trans {Q : W → MH → Prop} (e : Ext H M H1 M1) {v : V} {H2 : Hp} (h : up Y H1 M1 Q v H2) : up Y H M Q v H2 := by
  obtain ⟨w, M', e', d, r, q⟩ := h
  exact ⟨w, M', e.trans e', d, r, q⟩
theorem upB.trans {Q : Bool → MH → Prop} (e : Ext H M H1 M1) {v : Bool} {H2 : Hp} (h : upB Y H1 M1 Q v H2) : upB Y H M Q v H2 := by
  obtain ⟨M', e', d, q⟩ := h
  exact ⟨M', e.trans e', d, q⟩
theorem upA.trans {Q : List W → MH → Prop} (e : Ext H M H1 M1) {v : List V} {H2 : Hp} (h : upA Y H1 M1 Q v H2) : upA Y H M Q v H2 := by
  obtain ⟨w, M', e', d, r, q⟩ := h
  exact ⟨w, M', e.trans e', d, r, q⟩
theorem QE.then_ {e : Expr} {t : TEd} (h : QE Y e t) (S : Std Y s H σ M) {Q : W → MH → Prop} (q : t σ M Q) {R : VK}
    (k : ∀ v H1 w M1, Ext H M H1 M1 → Dok Y.X.K H1 M1 → Wv Y.X.K H1 M1 v w → Q w M1 → R v H1) : semE Y.X e s H R :=
  semE_mono (h.run s H σ M Q S q) fun v H1 ⟨w, M1, e, d, r, q⟩ => k v H1 w M1 e d r q
theorem QT.then_ {e : Expr} {t : TTd} (h : QT Y e t) (S : Std Y s H σ M) {Q : Bool → MH → Prop} (q : t σ M Q) {R : Bool → Hp → Prop}
    (k : ∀ v H1 M1, Ext H M H1 M1 → Dok Y.X.K H1 M1 → Q v M1 → R v H1) : semT Y.X e s H R :=
  semT_mono (h.run s H σ M Q S q) fun v H1 ⟨M1, e, d, q⟩ => k v H1 M1 e d q
theorem QA.then_ {es : List Expr} {t : TAd} (h : QA Y es t) (S : Std Y s H σ M) {Q : List W → MH → Prop} (q : t σ M Q) {R : List V → Hp → Prop}
    (k : ∀ v H1 w M1, Ext H M H1 M1 → Dok Y.X.K H1 M1 → WvA Y.X.K H1 M1 v w → Q w M1 → R v H1) : semA Y.X es s H R :=
  semA_mono (h.run s H σ M Q S q) fun v H1 ⟨w, M1, e, d, r, q⟩ => k v H1 w M1 e d r q
theorem Std.here {Q : W → MH → Prop} (S : Std Y s H σ M) {v : V} {w : W} (r : Wv Y.X.K H M v w) (q : Q w M) : up Y H M Q v H := ⟨w, M, .refl _ _, S.d, r, q⟩
theorem upS.trans {Q : SD → MH → Prop} (e : Ext H M H1 M1) {s2 : L2.St} {H2 : Hp} (h : upS Y H1 M1 Q s2 H2) : upS Y H M Q s2 H2 := by
  obtain ⟨σ', M', e', S, q⟩ := h
  exact ⟨σ', M', e.trans e', S, q⟩
theorem semS_mono {X : Cx} {st : Stmt} {s : L2.St} {H : Hp} {D D' : Ends} (h : semS X st D s H) (h1 : ∀ σ H, D.nx σ H → D'.nx σ H) (h2 : ∀ v H, D.rt v H → D'.rt v H) (h3 : ∀ σ H, D.bk σ H → D'.bk σ H) (h4 : ∀ σ H, D.ct σ H → D'.ct σ H) : semS X st D' s H :=
  fun pins sh I => thn (h pins sh I) fun _ _ z => SP.mono z h1 h2 h3 h4
theorem semSs_mono {X : Cx} {st : List Stmt} {s : L2.St} {H : Hp} {D D' : Ends} (h : semSs X st D s H) (h1 : ∀ σ H, D.nx σ H → D'.nx σ H) (h2 : ∀ v H, D.rt v H → D'.rt v H) (h3 : ∀ σ H, D.bk σ H → D'.bk σ H) (h4 : ∀ σ H, D.ct σ H → D'.ct σ H) : semSs X st D' s H :=
  fun pins sh I => thn (h pins sh I) fun _ _ z => SP.mono z h1 h2 h3 h4
theorem semSs_up {st : List Stmt} {D : EndsD} {s2 : L2.St} {H2 : Hp} (e : Ext H M H1 M1) (h : semSs Y.X st (upD Y H1 M1 D) s2 H2) : semSs Y.X st (upD Y H M D) s2 H2 :=
  semSs_mono h (fun _ _ z => z.trans e) (fun _ _ z => z.trans e) (fun _ _ z => z.trans e) fun _ _ z => z.trans e
end
end Dl
set_option Elab.async false
set_option linter.all false
set_option maxRecDepth 100000
namespace Dl
open PySem PySem.Spec PyProof.Rows L2

/-! ### reading data off the machine's heap -/
section
variable {X : Cx} {pins : List (Addr × Obj)} {s : L2.St} {H : Hp} {sh : Shared} {M : MH}
theorem key_read {h : Heap} {k : Key} {u : Value} (e : keyIs k u = true) : Reads h u (keyD k) [] := by
  rcases keyIs_shape e with ⟨i, t, rfl, rfl⟩ | ⟨x, t, rfl, rfl⟩
  · exact .int i t
  · exact .str x t
theorem keys_read {h : Heap} : ∀ {ks : List Key} {us : List Value}, Vals (ks.map kV) us → ReadsAll h us (ks.map keyD) []
  | [], _, r => by cases r; exact .nil
  | k :: ks, us, r => by
    cases r with
    | cons r1 r2 =>
      rename_i u ur
      have h1 : Reads h u (keyD k) [] := by
        cases k with
        | inl i => obtain ⟨t, rfl⟩ := r1; exact .int i t
        | inr x => obtain ⟨t, rfl⟩ := r1; exact .str x t
      exact .cons h1 (keys_read r2)
theorem seq_notSys (I : Inv X pins s H sh) (hsy : SysOk X.base) {a : Addr} {o : Obj} {vs : Array Value} {n : Nat} (e : sh.heap.get? a = some o) (d : o.data = .seq vs n) : a ≠ sysModules := fun z => by
  obtain ⟨o', es, m, e', d'⟩ := hsy
  have q := I.bk _ _ e'
  rw [← z, e] at q
  cases q
  rw [d] at d'
  cases d'
mutual
theorem Fz.reads (I : Inv X pins s H sh) (hsy : SysOk X.base) : ∀ (d : PyData) (v : V) (u : Value), Fz X.K H M v d → RelV v u → ∃ as, Reads sh.heap u d as ∧ sysModules ∉ as
  | .none, _, _, h, r => by cases h; cases r; exact ⟨_, .none, by simp⟩
  | .bool b, _, _, h, r => by cases h; cases r; exact ⟨_, .bool b, by simp⟩
  | .int i, _, _, h, r => by cases h; obtain ⟨t, rfl⟩ := r; exact ⟨_, .int i t, by simp⟩
  | .str x, _, _, h, r => by cases h; obtain ⟨t, rfl⟩ := r; exact ⟨_, .str x t, by simp⟩
  | .list ds, _, _, h, r => by
    cases h with
    | lst hs ha =>
      cases r
      obtain ⟨its, rv, ⟨o, n, ho, hc, _, hd⟩, _⟩ := I.list hs.sq
      obtain ⟨as, hr, z⟩ := FzA.reads I hsy ds _ its ha rv
      exact ⟨_, .list ho hc hd hr, by simp only [List.mem_cons, not_or]; exact ⟨fun e => seq_notSys I hsy ho hd e.symm, z⟩⟩
  | .tuple ds, _, _, h, r => by
    cases h with
    | tup hs ha =>
      cases r
      obtain ⟨its, rv, ⟨o, ho, hc, n, hd⟩, _⟩ := I.tuple hs.sq
      obtain ⟨as, hr, z⟩ := FzA.reads I hsy ds _ its ha rv
      exact ⟨_, .tuple ho hc hd hr, z⟩
  | .dict ds, _, _, h, r => by
    cases h with
    | dK h1 h2 h3 =>
      cases r
      obtain ⟨_, hz, vs, kv, o, es, ep, ho, ex, hd, _, hp, _⟩ := I.hok _ _ h1
      obtain ⟨as, bs, q1, q2, z1, z2⟩ := FzK.reads I hsy ds _ vs es.toList h3 kv hp
      refine ⟨_, .dict ho ex.1 hd q1 q2, ?_⟩
      simp only [List.cons_append, List.mem_cons, List.mem_append, not_or]
      exact ⟨fun e => by simp [← e] at hz, z1, z2⟩
    | dT h1 h2 h3 =>
      cases r
      obtain ⟨_, hz, xs, pr, o, es, ep, ho, ex, hd, he, _⟩ := I.hok _ _ h1
      obtain ⟨as, bs, q1, q2, z1, z2⟩ := FzT.reads I hsy ds _ xs h3 pr
      refine ⟨_, .dict ho ex.1 hd (as := as) (bs := bs) ?_ ?_, ?_⟩
      · rw [he, List.map_map]; exact q1
      · rw [he, List.map_map]; exact q2
      · simp only [List.cons_append, List.mem_cons, List.mem_append, not_or]
        exact ⟨fun e => by simp [← e] at hz, z1, z2⟩
theorem FzA.reads (I : Inv X pins s H sh) (hsy : SysOk X.base) : ∀ (ds : List PyData) (vs : List V) (us : List Value), FzA X.K H M vs ds → Vals vs us → ∃ as, ReadsAll sh.heap us ds as ∧ sysModules ∉ as
  | [], _, _, h, r => by cases h; cases r; exact ⟨_, .nil, by simp⟩
  | d :: ds, _, _, h, r => by
    cases h with
    | cons h1 h2 =>
      cases r with
      | cons r1 r2 =>
        obtain ⟨as, q1, z1⟩ := Fz.reads I hsy d _ _ h1 r1
        obtain ⟨bs, q2, z2⟩ := FzA.reads I hsy ds _ _ h2 r2
        exact ⟨_, .cons q1 q2, by simp only [List.mem_append, not_or]; exact ⟨z1, z2⟩⟩
theorem FzK.reads (I : Inv X pins s H sh) (hsy : SysOk X.base) : ∀ (ds : List (PyData × PyData)) (kvs : List (Key × V)) (vs : List (Key × Value)) (es : List DictEntry), FzK X.K H M kvs ds → KV kvs vs → Pairs (mixKind X.prog X.w) es vs →
    ∃ as bs, ReadsAll sh.heap (es.map (·.key)) (ds.map (·.1)) as ∧ ReadsAll sh.heap (es.map (·.val)) (ds.map (·.2)) bs ∧ sysModules ∉ as ∧ sysModules ∉ bs
  | [], _, _, _, h, r, p => by cases h; cases r; cases p; exact ⟨_, _, .nil, .nil, by simp, by simp⟩
  | (kd, d) :: ds, _, _, _, h, r, p => by
    cases h with
    | cons h1 h2 =>
      cases r with
      | cons r1 r2 =>
        cases p with
        | cons p1 p2 p3 =>
          obtain ⟨a1, q1, z1⟩ := Fz.reads I hsy d _ _ h1 r1.2
          obtain ⟨as, bs, q2, q3, z2, z3⟩ := FzK.reads I hsy ds _ _ _ h2 r2 p3
          rw [← p2] at q1
          refine ⟨_, _, .cons (key_read (k := _) ?_) q2, .cons q1 q3, ?_, ?_⟩
          · have p1' : keyIs _ _ = true := p1
            rw [← r1.1] at p1'
            exact p1'
          · simpa using z2
          · simp only [List.mem_append, not_or]; exact ⟨z1, z3⟩
theorem FzT.reads (I : Inv X pins s H sh) (hsy : SysOk X.base) : ∀ (ds : List (PyData × PyData)) (kvs : List (List Key × V)) (xs : List (List Key × Addr × Value)), FzT X.K H M kvs ds →
    Paired (fun (p : List Key × V) (q : List Key × Addr × Value) => p.1 = q.1 ∧ H q.2.1 = some (.tup (p.1.map kV)) ∧ RelV p.2 q.2.2) kvs xs →
    ∃ as bs, ReadsAll sh.heap (xs.map ((·.key) ∘ entryOfKey (tupleKind (mixKind X.prog X.w)))) (ds.map (·.1)) as ∧ ReadsAll sh.heap (xs.map ((·.val) ∘ entryOfKey (tupleKind (mixKind X.prog X.w)))) (ds.map (·.2)) bs ∧ sysModules ∉ as ∧ sysModules ∉ bs
  | [], _, _, h, r => by cases h; cases r; exact ⟨_, _, .nil, .nil, by simp, by simp⟩
  | (kd, d) :: ds, _, _, h, r => by
    cases h with
    | cons h1 h2 =>
      cases r with
      | cons r1 r2 =>
        obtain ⟨e1, e2, e3⟩ := r1
        obtain ⟨a1, q1, z1⟩ := Fz.reads I hsy d _ _ h1 e3
        obtain ⟨as, bs, q2, q3, z2, z3⟩ := FzT.reads I hsy ds _ _ h2 r2
        obtain ⟨its, rv, ⟨o, ho, hc, n, hd⟩, _⟩ := I.tuple (SqT.of (K := X.K) e2)
        refine ⟨_, _, .cons (.tuple ho hc hd (keys_read rv)) q2, .cons q1 q3, ?_, ?_⟩
        · simpa using z2
        · simp only [List.mem_append, not_or]; exact ⟨z1, z3⟩
end
end
end Dl
set_option Elab.async false
set_option linter.all false
set_option maxRecDepth 100000
namespace Dl
open PySem PySem.Spec PyProof.Rows L2

/-! ### operations by what they do -/
def semO (X : Cx) (f : Value → Value → Sem Value) : R2 := fun x y H Q => ∀ pins sh s v u, Inv X pins s H sh → RelV x v → RelV y u → wpAny (model X.prog X.w) X.A (f v u) (EP X pins s Q) X.xe sh
theorem op_sem {X : Cx} {f : Value → Value → Sem Value} : OpR X f (semO X f) := fun pins sh s _ _ _ v u _ I rx ry h => h pins sh s v u I rx ry
theorem semO_of {X : Cx} {f : Value → Value → Sem Value} {r : R2} (h : OpR X f r) {x y : V} {H : Hp} {Q : VK} (q : r x y H Q) : semO X f x y H Q := fun pins sh s v u I rx ry => h pins sh s H x y v u Q I rx ry q
theorem semO_mono {X : Cx} {f : Value → Value → Sem Value} {x y : V} {H : Hp} {Q Q' : VK} (h : semO X f x y H Q) (k : ∀ v H', Q v H' → Q' v H') : semO X f x y H Q' := fun pins sh s v u I rx ry =>
  thn (h pins sh s v u I rx ry) fun _ _ ⟨v, H', I', r, q⟩ => ⟨v, H', I', r, k v H' q⟩
def semC (X : Cx) (f : Value) : List V → Hp → VK → Prop := fun xs H Q => ∀ pins sh s us, Inv X pins s H sh → Vals xs us → wpAny (model X.prog X.w) X.A (call f us) (EP X pins s Q) X.xe sh
theorem call_sem {X : Cx} {f : Value} : CallR X f (semC X f) := fun pins sh s _ _ us _ I r h => h pins sh s us I r
theorem semC_of {X : Cx} {f : Value} {r : List V → Hp → VK → Prop} (h : CallR X f r) {xs : List V} {H : Hp} {Q : VK} (q : r xs H Q) : semC X f xs H Q := fun pins sh s us I rv => h pins sh s H xs us Q I rv q
theorem semC_mono {X : Cx} {f : Value} {xs : List V} {H : Hp} {Q Q' : VK} (h : semC X f xs H Q) (k : ∀ v H', Q v H' → Q' v H') : semC X f xs H Q' := fun pins sh s us I r =>
  thn (h pins sh s us I r) fun _ _ ⟨v, H', I', r, q⟩ => ⟨v, H', I', r, k v H' q⟩
def semI (X : Cx) : R2 := fun x y H Q => ∀ pins sh s v u, Inv X pins s H sh → RelV x v → RelV y u → wpAny (model X.prog X.w) X.A (getItem v u) (EP X pins s Q) X.xe sh

abbrev R2d := W → W → MH → (W → MH → Prop) → Prop
abbrev R1d := W → MH → (W → MH → Prop) → Prop
abbrev RCd := List W → MH → (W → MH → Prop) → Prop
/-- a two-place operation over data -/
def Op2 (Y : Dx) (f : Value → Value → Sem Value) (r : R2d) : Prop := ∀ s H σ M x y a b Q, Std Y s H σ M → Wv Y.X.K H M x a → Wv Y.X.K H M y b → r a b M Q → semO Y.X f x y H (up Y H M Q)
/-- a call of a built-in with data -/
def OpC (Y : Dx) (f : Value) (r : RCd) : Prop := ∀ s H σ M xs ws Q, Std Y s H σ M → WvA Y.X.K H M xs ws → r ws M Q → semC Y.X f xs H (up Y H M Q)

/-! ### values from data -/
section
variable {K : PySem.W.Frag} {H : Hp} {M : MH} {v : V}
theorem Wv.int {i : Int} (h : Wv K H M v (.d (.int i))) : v = .int i := by cases h; rfl
theorem Wv.bool {b : Bool} (h : Wv K H M v (.d (.bool b))) : v = .bl b := by cases h; rfl
theorem Wv.str {x : Str} (h : Wv K H M v (.d (.str x))) : v = .str x := by cases h; rfl
theorem Wv.none (h : Wv K H M v (.d .none)) : v = .non := by cases h; rfl
theorem wInt (i : Int) : Wv K H M (.int i) (.d (.int i)) := Fz.int i
theorem wBool (b : Bool) : Wv K H M (.bl b) (.d (.bool b)) := Fz.bl b
theorem wStr (x : Str) : Wv K H M (.str x) (.d (.str x)) := Fz.str x
theorem wNone : Wv K H M .non (.d .none) := Fz.non
theorem Wv.tup {ds : List PyData} (h : Wv K H M v (.d (.tuple ds))) : ∃ a xs, v = .ref a ∧ FT K H M a xs ∧ FzA K H M xs ds := by cases h with | tup h1 h2 => exact ⟨_, _, rfl, h1, h2⟩
theorem Wv.lst {ds : List PyData} (h : Wv K H M v (.d (.list ds))) : ∃ a xs, v = .ref a ∧ FL H M a xs ∧ FzA K H M xs ds := by cases h with | lst h1 h2 => exact ⟨_, _, rfl, h1, h2⟩
end
section
variable {Y : Dx} {s : L2.St} {H : Hp} {σ : SD} {M : MH} {Q : W → MH → Prop}
theorem std_new (S : Std Y s H σ M) {p : Addr} (n : H p = none) {o : HO} {x : PyData} (k : Ext H M (upd H p o) M → M p = none → Fz Y.X.K (upd H p o) M (.ref p) x) (q : Q (.d x) M) : up Y H M Q (.ref p) (upd H p o) := by
  have m := S.d.free n
  have e := ext_new (o := o) n m
  exact ⟨.d x, M, e, dok_new S.d n, k e m, q⟩
theorem up_tup (S : Std Y s H σ M) {p : Addr} (n : H p = none) {o : Obj} (so : Sol o) {xs : List V} {ds : List PyData} (h : FzA Y.X.K H M xs ds) (q : Q (.d (.tuple ds)) M) : up Y H M Q (.ref p) (upd H p (.frz o (.tup xs))) :=
  std_new S n (fun e m => .tup (.inl ⟨⟨o, upd_same, so⟩, m⟩) (FzA.ext e ds xs h)) q
/-- a new tuple stands, solid -/
theorem ep_tup {X : Cx} {pins : List (Addr × Obj)} {σ : L2.St} {H : Hp} {t : Shared} (J : Inv X pins σ H t) {its : List Value} {xs : List V} (rv : Vals xs its) (hz : xs.length ≤ sizeLine) {R : VK} (k : ∀ p o, H p = none → Sol o → R (.ref p) (upd H p (.frz o (.tup xs)))) :
    EP X pins σ R (.ref t.heap.objs.size) { t with heap := t.heap.push { cls := .type "tuple", data := .seq its.toArray } } := by
  have here : (t.heap.push { cls := .type "tuple", data := .seq its.toArray }).get? t.heap.objs.size = some { cls := .type "tuple", data := .seq its.toArray } := Heap.get?_push_size _ rfl
  have J2 := J.laid (t' := t.toks) (o := .frz { cls := .type "tuple", data := .seq its.toArray } (.tup xs)) (h' := t.heap.push { cls := .type "tuple", data := .seq its.toArray }) (fun _ _ e => Heap.get?_push_of_some _ e) (Nat.le_refl _)
    ⟨here, hz, its, rv, _, here, rfl, 0, rfl⟩
  exact ⟨.ref t.heap.objs.size, _, J2, rfl, k _ _ (J.hok.fresh (Nat.le_refl _)) ⟨rfl, rfl⟩⟩
def tTupF (ta : TA) : TE := fun σ H R => ta σ H fun xs H' => xs.length ≤ sizeLine ∧ ∀ p o, H' p = none → Sol o → R (.ref p) (upd H' p (.frz o (.tup xs)))
theorem pe_tupF {X : Cx} {es : List Expr} {ta : TA} {pos : Pos} {kk} (ha : PA X es ta) : PE X (.Tuple es kk pos) (tTupF ta) :=
  ⟨fun _ _ _ _ _ I q => wpAny_Tuple_spliced (thn (ha.run _ _ _ _ _ _ I q) fun _ _ ⟨_, _, J, rv, z, k⟩ => ⟨rv.length ▸ z, ep_tup J rv z k⟩)⟩
theorem up_lst (S : Std Y s H σ M) {p : Addr} (n : H p = none) {xs : List V} {ds : List PyData} (h : FzA Y.X.K H M xs ds) (q : Q (.d (.list ds)) M) : up Y H M Q (.ref p) (upd H p (.lst xs)) :=
  std_new S n (fun e m => .lst ⟨upd_same, m⟩ (FzA.ext e ds xs h)) q
theorem up_mut (S : Std Y s H σ M) {p : Addr} (n : H p = none) {xs : List V} {ws : List W} (h : WvA Y.X.K H M xs ws) (q : Q (.ref p) (mset M p (.lst ws))) : up Y H M Q (.ref p) (upd H p (.lst xs)) :=
  ⟨.ref p, _, ext_mut (.inr n), dok_mut (u := .lst ws) S.d (.inr n) fun e => ⟨xs, upd_same, WvA.ext e h⟩, rfl, q⟩
/-- a tracked list that may change is changed -/
theorem up_set (S : Std Y s H σ M) {p : Addr} {ws0 : List W} (m : M p = some (.lst ws0)) {xs : List V} {ws : List W} (h : WvA Y.X.K H M xs ws) {v : V} {w : W} (hv : Wv Y.X.K H M v w) (q : Q w (mset M p (.lst ws))) : up Y H M Q v (upd H p (.lst xs)) := by
  have nn : M p ≠ none := by rw [m]; exact fun z => by cases z
  have e : Ext H M (upd H p (.lst xs)) (mset M p (.lst ws)) := ext_mut (.inl nn)
  exact ⟨w, _, e, dok_mut (u := .lst ws) S.d (.inl nn) fun e => ⟨xs, upd_same, WvA.ext e h⟩, hv.ext e, q⟩
end

/-! ### names, constants -/
def slotQ : SD → Nat → (W → Prop) → Prop
  | [], _, _ => False
  | o :: _, 0, Q => match o with | some w => Q w | none => False
  | _ :: t, n + 1, Q => slotQ t n Q
theorem slotQ_get : ∀ {σ : SD} {i : Nat} {Q : W → Prop}, slotQ σ i Q → ∃ w, σ[i]? = some (some w) ∧ Q w
  | [], _, _, h => h.elim
  | o :: _, 0, Q, h => by
    cases o with
    | none => exact (show False from h).elim
    | some w => exact ⟨w, rfl, h⟩
  | _ :: t, n + 1, Q, h => slotQ_get (σ := t) (i := n) h
def tVar (i : Nat) : TEd := fun σ M Q => slotQ σ i fun w => Q w M
def tK (x : PyData) : TEd := fun _ M Q => Q (.d x) M
section
variable {g : Gc} {i : Si} {k : Nat} {Y : Dx}
theorem q_var (F : Fm g i k Y) (j : Nat) {x : Str} {pos : Pos} (hN : i.N[j]? = some x := by rfl) (hv : i.vis.contains j = true := by rfl) : QE Y (.Name x pos) (tVar j) := by
  refine ⟨fun s H σ M Q S h => ?_⟩
  obtain ⟨w, e, q⟩ := slotQ_get h
  obtain ⟨v, ev, r⟩ := S.s.get e
  obtain ⟨h1, h2, h3⟩ := F.var j x hv hN
  exact semE_of (pe_var (i := j) (by rw [F.N]; exact hN) h1 h2 h3) ⟨v, ev, S.here r q⟩
theorem q_int {Y : Dx} {n j pos} : QE Y (.Constant (.int n) j pos) (tK (.int n)) := ⟨fun _ _ _ _ _ S h => semE_of pe_int (S.here (wInt n) h)⟩
theorem q_bool {Y : Dx} {b j pos} : QE Y (.Constant (.bool b) j pos) (tK (.bool b)) := ⟨fun _ _ _ _ _ S h => semE_of pe_bl (S.here (wBool b) h)⟩
theorem q_none {Y : Dx} {j pos} : QE Y (.Constant .none j pos) (tK .none) := ⟨fun _ _ _ _ _ S h => semE_of pe_non (S.here wNone h)⟩
theorem q_str {Y : Dx} {x j pos} : QE Y (.Constant (.str x) j pos) (tK (.str x)) := ⟨fun _ _ _ _ _ S h => semE_of pe_str (S.here (wStr x) h)⟩
/-- a constant of the module -/
theorem q_glob (F : Fm g i k Y) (j : Nat) {x : Str} {pos : Pos} {v : V} {u : Value} {d : PyData} (hm : g.mg x = some u) (r : RelV v u) (hd : ∀ H M, Fz g.K H M v d) (hj : i.gls[j]? = some x := by rfl) : QE Y (.Name x pos) (tK d) := by
  obtain ⟨h1, h2, h3⟩ := F.glo j x hj
  exact ⟨fun s H σ M Q S h => semE_of (pe_glob h1 (by rw [F.hmg]; exact hm) r h2) (S.here (w := .d d) (by rw [F.hK]; exact hd H M) h)⟩

/-! ### operators -/
def tBin (r : R2d) (ta tb : TEd) : TEd := fun σ M Q => ta σ M fun x M1 => tb σ M1 fun y M2 => r x y M2 Q
theorem bin_run {f : Value → Value → Sem Value} {r : R2d} {a b : Expr} {ta tb : TEd} (ho : Op2 Y f r) (ha : QE Y a ta) (hb : QE Y b tb) {s H σ M Q} (S : Std Y s H σ M) (h : tBin r ta tb σ M Q) :
    tOp (semO Y.X f) (semE Y.X a) (semE Y.X b) s H (up Y H M Q) :=
  ha.then_ S h fun _ H1 _ _ e d rv q => hb.then_ (S.go e d) q fun _ _ _ _ e2 d2 rv2 q2 => semO_mono (ho _ _ _ _ _ _ _ _ _ ((S.go e d).go e2 d2) (rv.ext e2) rv2 q2) fun _ _ z => z.trans (e.trans e2)
theorem q_bin {op : Operator} {r : R2d} {a b : Expr} {ta tb : TEd} {pos : Pos} (ho : Op2 Y (binaryOp op) r) (ha : QE Y a ta) (hb : QE Y b tb) : QE Y (.BinOp a op b pos) (tBin r ta tb) :=
  ⟨fun _ _ _ _ _ S h => semE_of (pe_op op_sem pe_sem pe_sem) (bin_run ho ha hb S h)⟩
theorem q_cmp {op : CmpOp} {r : R2d} {a b : Expr} {ta tb : TEd} {pos : Pos} (ho : Op2 Y (compareOp op) r) (ha : QE Y a ta) (hb : QE Y b tb) (hm : behindInMarks op b = false := by first | exact nomark _ | rfl) : QE Y (.Compare a [op] [b] pos) (tBin r ta tb) :=
  ⟨fun _ _ _ _ _ S h => semE_of (pe_cmpR op_sem pe_sem pe_sem hm) (bin_run ho ha hb S h)⟩
def boolQ (Q : Bool → MH → Prop) : W → MH → Prop := fun w M => match w with | .d (.bool b) => Q b M | _ => False
theorem boolQ_get {Q : Bool → MH → Prop} {w : W} {M : MH} (h : boolQ Q w M) : ∃ b, w = .d (.bool b) ∧ Q b M := by
  cases w with
  | d x => cases x with
    | bool b => exact ⟨b, rfl, h⟩
    | _ => exact (show False from h).elim
  | _ => exact (show False from h).elim
/-- an expression that gives a truth, as a test -/
def tTst (t : TEd) : TTd := fun σ M Q => t σ M (boolQ Q)
theorem up_bool {H : Hp} {M : MH} {Q : Bool → MH → Prop} {v : V} {H' : Hp} (h : up Y H M (boolQ Q) v H') : ∃ c, v = .bl c ∧ upB Y H M Q c H' := by
  obtain ⟨w, M', e, d, r, q⟩ := h
  obtain ⟨b, rfl, q0⟩ := boolQ_get q
  exact ⟨b, r.bool, M', e, d, q0⟩
theorem t_cmp {op : CmpOp} {r : R2d} {a b : Expr} {ta tb : TEd} {pos : Pos} (ho : Op2 Y (compareOp op) r) (ha : QE Y a ta) (hb : QE Y b tb) (hm : behindInMarks op b = false := by first | exact nomark _ | rfl) : QT Y (.Compare a [op] [b] pos) (tTst (tBin r ta tb)) := by
  refine ⟨fun s H σ M Q S h => semT_of (pt_cmpR op_sem pe_sem pe_sem hm) ?_⟩
  have z := bin_run ho ha hb S h
  exact semE_mono z fun _ _ z1 => semE_mono z1 fun _ _ z2 => semO_mono z2 fun _ _ z3 => up_bool z3
theorem t_val {e : Expr} {t : TEd} (h : QE Y e t) (he : ∀ whole, isTrue e Y.X.env whole = (do let v ← whole; standAt e.pos; holding [v] (truthy v)) := by intro _; rfl) : QT Y e (tTst t) :=
  ⟨fun s H σ M Q S hq => semT_of (pt_val pe_sem he) (semE_mono (h.run s H σ M _ S hq) fun _ _ z => up_bool z)⟩
/-- a op1 b op2 c -/
def tChn (r r' : R2d) (ta tb tc : TEd) : TEd := fun σ M Q => ta σ M fun x M1 => tb σ M1 fun y M2 => r x y M2 (boolQ fun k M3 => if k = true then tc σ M3 fun z M4 => r' y z M4 Q else Q (.d (.bool false)) M3)
theorem chain_run {f f' : Value → Value → Sem Value} {r r' : R2d} {a b c : Expr} {ta tb tc : TEd} (ho : Op2 Y f r) (ho' : Op2 Y f' r') (ha : QE Y a ta) (hb : QE Y b tb) (hc : QE Y c tc) {s H σ M Q} (S : Std Y s H σ M) (h : tChn r r' ta tb tc σ M Q) :
    tChain (semO Y.X f) (semO Y.X f') (semE Y.X a) (semE Y.X b) (semE Y.X c) s H (up Y H M Q) := by
  refine ha.then_ S h fun _ H1 _ _ e d rv q => hb.then_ (S.go e d) q fun _ _ _ _ e2 d2 rv2 q2 => ?_
  have S2 := (S.go e d).go e2 d2
  refine semO_mono (ho _ _ _ _ _ _ _ _ _ S2 (rv.ext e2) rv2 q2) fun _ _ z => ?_
  obtain ⟨w, M3, e3, d3, r3, q3⟩ := z
  obtain ⟨b', rfl, q0⟩ := boolQ_get q3
  clear q3
  have q3 := q0
  clear q0
  refine ⟨b', r3.bool, ?_⟩
  cases b' with
  | true =>
    refine iteT ?_
    refine hc.then_ (S2.go e3 d3) (show tc σ M3 _ from by simpa using q3) fun _ _ _ _ e4 d4 rv4 q4 => ?_
    exact semO_mono (ho' _ _ _ _ _ _ _ _ _ ((S2.go e3 d3).go e4 d4) (rv2.ext (e3.trans e4)) rv4 q4) fun _ _ z => z.trans ((e.trans e2).trans (e3.trans e4))
  | false =>
    refine iteF ?_
    exact ⟨_, M3, (e.trans e2).trans e3, d3, wBool false, by simpa using q3⟩
theorem q_chn {op op' : CmpOp} {r r' : R2d} {a b c : Expr} {ta tb tc : TEd} {pos : Pos} (ho : Op2 Y (compareOp op) r) (ho' : Op2 Y (compareOp op') r') (ha : QE Y a ta) (hb : QE Y b tb) (hc : QE Y c tc)
    (hm : lastMarks [op, op'] [b, c] = false := by with_unfolding_all rfl) : QE Y (.Compare a [op, op'] [b, c] pos) (tChn r r' ta tb tc) :=
  ⟨fun _ _ _ _ _ S h => semE_of (pe_chain op_sem op_sem pe_sem pe_sem pe_sem hm) (chain_run ho ho' ha hb hc S h)⟩
theorem t_chn {op op' : CmpOp} {r r' : R2d} {a b c : Expr} {ta tb tc : TEd} {pos : Pos} (ho : Op2 Y (compareOp op) r) (ho' : Op2 Y (compareOp op') r') (ha : QE Y a ta) (hb : QE Y b tb) (hc : QE Y c tc)
    (hm : lastMarks [op, op'] [b, c] = false := by with_unfolding_all rfl) : QT Y (.Compare a [op, op'] [b, c] pos) (tTst (tChn r r' ta tb tc)) := by
  refine ⟨fun s H σ M Q S h => semT_of (pt_chain op_sem op_sem pe_sem pe_sem pe_sem hm) ?_⟩
  have z := chain_run ho ho' ha hb hc S h
  refine semE_mono z fun _ _ z1 => semE_mono z1 fun _ _ z2 => semO_mono z2 fun _ _ ⟨k, e, z3⟩ => ⟨k, e, ?_⟩
  cases k with
  | true => exact iteT (semE_mono (by simpa using z3) fun _ _ z4 => semO_mono z4 fun _ _ z5 => up_bool z5)
  | false => exact iteF (up_bool (by simpa using z3))

/-! ### and, or, not, if -/
def tAndT (t u : TTd) : TTd := fun σ M Q => t σ M fun c M1 => if c = true then u σ M1 Q else Q false M1
def tOrT (t u : TTd) : TTd := fun σ M Q => t σ M fun c M1 => if c = true then Q true M1 else u σ M1 Q
def tNotT (t : TTd) : TTd := fun σ M Q => t σ M fun c M1 => Q (!c) M1
theorem QW.pt {e : Expr} {t : TTd} (h : QW Y e t) : QT Y e t := ⟨fun s H σ M Q S hq => semT_of pw_sem.pt (h.run s H σ M Q S hq)⟩
theorem w_and1 {a : Expr} {t : TTd} {pos : Pos} (ha : QT Y a t) : QW Y (.BoolOp .And [a] pos) t := ⟨fun s H σ M Q S hq => semW_of (pw_and1 pt_sem) (ha.run s H σ M Q S hq)⟩
theorem w_or1 {a : Expr} {t : TTd} {pos : Pos} (ha : QT Y a t) : QW Y (.BoolOp .Or [a] pos) t := ⟨fun s H σ M Q S hq => semW_of (pw_or1 pt_sem) (ha.run s H σ M Q S hq)⟩
theorem semW_mono {X : Cx} {e : Expr} {s : L2.St} {H : Hp} {Q Q' : Bool → Hp → Prop} (h : semW X e s H Q) (k : ∀ v H', Q v H' → Q' v H') : semW X e s H Q' := fun wh pins sh I =>
  thn (h wh pins sh I) fun _ _ ⟨H', I', q⟩ => ⟨H', I', k _ H' q⟩
theorem w_and {a b : Expr} {rest : List Expr} {t u : TTd} {pos : Pos} (ha : QT Y a t) (hb : QW Y (.BoolOp .And (b :: rest) pos) u) : QW Y (.BoolOp .And (a :: b :: rest) pos) (tAndT t u) := by
  refine ⟨fun s H σ M Q S hq => semW_of (pw_and pt_sem pw_sem) (ha.then_ S hq fun c H1 M1 e d q => ?_)⟩
  cases c with
  | true => exact iteT (semW_mono (hb.run s H1 σ M1 Q (S.go e d) (by simpa using q)) fun _ _ z => z.trans e)
  | false => exact iteF ⟨M1, e, d, by simpa using q⟩
theorem w_or {a b : Expr} {rest : List Expr} {t u : TTd} {pos : Pos} (ha : QT Y a t) (hb : QW Y (.BoolOp .Or (b :: rest) pos) u) : QW Y (.BoolOp .Or (a :: b :: rest) pos) (tOrT t u) := by
  refine ⟨fun s H σ M Q S hq => semW_of (pw_or pt_sem pw_sem) (ha.then_ S hq fun c H1 M1 e d q => ?_)⟩
  cases c with
  | true => exact iteT ⟨M1, e, d, by simpa using q⟩
  | false => exact iteF (semW_mono (hb.run s H1 σ M1 Q (S.go e d) (by simpa using q)) fun _ _ z => z.trans e)
theorem t_not {a : Expr} {t : TTd} {pos : Pos} (ha : QT Y a t) : QT Y (.UnaryOp .Not a pos) (tNotT t) :=
  ⟨fun s H σ M Q S hq => semT_of (pt_not pt_sem) (ha.run s H σ M (fun c M1 => Q (!c) M1) S hq)⟩
/-- as values, all of them truths -/
def tAnd2 (ta tb : TEd) : TEd := fun σ M Q => ta σ M (boolQ fun c M1 => if c = true then tb σ M1 Q else Q (.d (.bool false)) M1)
def tOr2 (ta tb : TEd) : TEd := fun σ M Q => ta σ M (boolQ fun c M1 => if c = true then Q (.d (.bool true)) M1 else tb σ M1 Q)
def tNot2 (ta : TEd) : TEd := fun σ M Q => ta σ M (boolQ fun c M1 => Q (.d (.bool !c)) M1)
theorem q_one {op} {a : Expr} {t : TEd} {pos : Pos} (h : QE Y a t) : QE Y (.BoolOp op [a] pos) t := ⟨fun s H σ M Q S hq => semE_of (pe_one pe_sem) (h.run s H σ M Q S hq)⟩
theorem q_and {a b : Expr} {rest : List Expr} {t u : TEd} {pos : Pos} (ha : QE Y a t) (hb : QE Y (.BoolOp .And (b :: rest) pos) u) : QE Y (.BoolOp .And (a :: b :: rest) pos) (tAnd2 t u) := by
  refine ⟨fun s H σ M Q S hq => semE_of (pe_and pe_sem pe_sem) (ha.then_ S hq fun v H1 w M1 e d r q => ?_)⟩
  obtain ⟨c, rfl, q0⟩ := boolQ_get q
  clear q
  have q := q0
  clear q0
  refine ⟨c, r.bool, ?_⟩
  cases c with
  | true => exact iteT (semE_mono (hb.run s H1 σ M1 Q (S.go e d) (by simpa using q)) fun _ _ z => z.trans e)
  | false => exact iteF ⟨_, M1, e, d, wBool false, by simpa using q⟩
theorem q_or {a b : Expr} {rest : List Expr} {t u : TEd} {pos : Pos} (ha : QE Y a t) (hb : QE Y (.BoolOp .Or (b :: rest) pos) u) : QE Y (.BoolOp .Or (a :: b :: rest) pos) (tOr2 t u) := by
  refine ⟨fun s H σ M Q S hq => semE_of (pe_or pe_sem pe_sem) (ha.then_ S hq fun v H1 w M1 e d r q => ?_)⟩
  obtain ⟨c, rfl, q0⟩ := boolQ_get q
  clear q
  have q := q0
  clear q0
  refine ⟨c, r.bool, ?_⟩
  cases c with
  | true => exact iteT ⟨_, M1, e, d, wBool true, by simpa using q⟩
  | false => exact iteF (semE_mono (hb.run s H1 σ M1 Q (S.go e d) (by simpa using q)) fun _ _ z => z.trans e)
theorem q_not {a : Expr} {t : TEd} {pos : Pos} (ha : QE Y a t) : QE Y (.UnaryOp .Not a pos) (tNot2 t) := by
  refine ⟨fun s H σ M Q S hq => semE_of (pe_not pe_sem) (ha.then_ S hq fun v H1 w M1 e d r q => ?_)⟩
  obtain ⟨c, rfl, q0⟩ := boolQ_get q
  clear q
  have q := q0
  clear q0
  exact ⟨c, r.bool, ⟨_, M1, e, d, wBool (!c), q⟩⟩
def tIte (t : TTd) (ta tb : TEd) : TEd := fun σ M Q => t σ M fun c M1 => if c = true then ta σ M1 Q else tb σ M1 Q
theorem q_ite {c a b : Expr} {t : TTd} {ta tb : TEd} {pos : Pos} (hc : QT Y c t) (ha : QE Y a ta) (hb : QE Y b tb) : QE Y (.IfExp c a b pos) (tIte t ta tb) := by
  refine ⟨fun s H σ M Q S hq => semE_of (pe_ifExp pt_sem pe_sem pe_sem) (hc.then_ S hq fun c H1 M1 e d q => ?_)⟩
  cases c with
  | true => exact iteT (semE_mono (ha.run s H1 σ M1 Q (S.go e d) (by simpa using q)) fun _ _ z => z.trans e)
  | false => exact iteF (semE_mono (hb.run s H1 σ M1 Q (S.go e d) (by simpa using q)) fun _ _ z => z.trans e)

/-! ### arguments, displays -/
def tNilA : TAd := fun _ M Q => Q [] M
def tConsA (t : TEd) (u : TAd) : TAd := fun σ M Q => t σ M fun x M1 => u σ M1 fun xs M2 => Q (x :: xs) M2
theorem a_nil : QA Y [] tNilA := ⟨fun _ _ _ _ _ S h => semA_of pa_nil ⟨[], _, .refl _ _, S.d, .nil, h⟩⟩
theorem a_cons {e : Expr} {es : List Expr} {t : TEd} {u : TAd} (ha : QE Y e t) (hr : QA Y es u) (hs : starEach (e :: es) Y.X.env = (false, eval e Y.X.env) :: starEach es Y.X.env := by rfl) : QA Y (e :: es) (tConsA t u) := by
  refine ⟨fun s H σ M Q S h => semA_of (pa_cons pe_sem pa_sem hs) (ha.then_ S h fun v H1 w M1 e d r q => hr.then_ (S.go e d) q fun vs H2 ws M2 e2 d2 r2 q2 => ?_)⟩
  exact ⟨w :: ws, M2, e.trans e2, d2, .cons (r.ext e2) r2, q2⟩
def allD : List W → Option (List PyData)
  | [] => some []
  | .d x :: r => (allD r).map (x :: ·)
  | _ => none
theorem allD_eq : ∀ {ws : List W} {ds : List PyData}, allD ws = some ds → ws = ds.map W.d
  | [], _, h => by cases h; rfl
  | .d x :: r, _, h => by
    unfold allD at h
    cases e : allD r with
    | none => rw [e] at h; cases h
    | some es =>
      rw [e] at h
      cases h
      rw [allD_eq e]
      rfl
  | .ref a :: r, _, h => by cases h
  | .scr a :: r, _, h => by cases h
  | .pr a :: r, _, h => by cases h
theorem allD_map : ∀ (ds : List PyData), allD (ds.map W.d) = some ds
  | [] => rfl
  | d :: ds => by show (allD (ds.map W.d)).map (d :: ·) = _; rw [allD_map ds]; rfl
def dataQ (Q : List PyData → MH → Prop) (ws : List W) (M : MH) : Prop := match allD ws with | some ds => Q ds M | none => False
theorem dataQ_get {Q : List PyData → MH → Prop} {ws : List W} {M : MH} (h : dataQ Q ws M) : ∃ ds, ws = ds.map W.d ∧ Q ds M := by
  unfold dataQ at h
  cases e : allD ws with
  | none => rw [e] at h; exact h.elim
  | some ds => rw [e] at h; exact ⟨ds, allD_eq e, h⟩
def small (n : Nat) : Prop := n ≤ sizeLine
theorem small_of {n : Nat} (h : n ≤ 16777216) : small n := by unfold small; rw [sizeLine_eq]; exact h
def tTup (t : TAd) : TEd := fun σ M Q => t σ M (dataQ fun ds M1 => small ds.length ∧ Q (.d (.tuple ds)) M1)
def tLst (t : TAd) : TEd := fun σ M Q => t σ M (dataQ fun ds M1 => small ds.length ∧ Q (.d (.list ds)) M1)
/-- a list that may change -/
def tLstM (t : TAd) : TEd := fun σ M Q => t σ M fun ws M1 => small ws.length ∧ ∀ p, M1 p = none → Q (.ref p) (mset M1 p (.lst ws))
theorem q_tup {es : List Expr} {t : TAd} {x1} {pos : Pos} (h : QA Y es t) : QE Y (.Tuple es x1 pos) (tTup t) := by
  refine ⟨fun s H σ M Q S hq => semE_of (pe_tupF pa_sem) (h.then_ S hq fun vs H1 ws M1 e d r q => ?_)⟩
  obtain ⟨ds, rfl, hz, q0⟩ := dataQ_get q
  clear q
  have q := q0
  clear q0
  have r' := FzA.of_wv r
  exact ⟨by rw [r'.length]; exact hz, fun p o n so => (up_tup (S.go e d) n so r' q).trans e⟩
theorem q_lst {es : List Expr} {t : TAd} {pos : Pos} (h : QA Y es t) : QE Y (.List es pos) (tLst t) := by
  refine ⟨fun s H σ M Q S hq => semE_of (pe_lst pa_sem) (h.then_ S hq fun vs H1 ws M1 e d r q => ?_)⟩
  obtain ⟨ds, rfl, hz, q0⟩ := dataQ_get q
  clear q
  have q := q0
  clear q0
  have r' := FzA.of_wv r
  exact ⟨by rw [r'.length]; exact hz, fun p n => (up_lst (S.go e d) n r' q).trans e⟩
theorem q_lstM {es : List Expr} {t : TAd} {pos : Pos} (h : QA Y es t) : QE Y (.List es pos) (tLstM t) := by
  refine ⟨fun s H σ M Q S hq => semE_of (pe_lst pa_sem) (h.then_ S hq fun vs H1 ws M1 e d r q => ?_)⟩
  obtain ⟨hz, q⟩ := q
  exact ⟨by rw [Paired.length r]; exact hz, fun p n => (up_mut (S.go e d) n r (q p (d.free n))).trans e⟩
end
end Dl
set_option Elab.async false
set_option linter.all false
set_option maxRecDepth 100000
namespace Dl
open PySem PySem.Spec PyProof.Rows L2

section
variable {Y : Dx}
/-! ### from the hand layer's rules -/
theorem op2_of {f : Value → Value → Sem Value} {r0 : R2} {r : R2d} (h : OpR Y.X f r0) (k : ∀ s H σ M x y a b Q, Std Y s H σ M → Wv Y.X.K H M x a → Wv Y.X.K H M y b → r a b M Q → r0 x y H (up Y H M Q)) : Op2 Y f r :=
  fun s H σ M x y a b Q S rx ry q => semO_of h (k s H σ M x y a b Q S rx ry q)
theorem opC_of {f : Value} {r0 : List V → Hp → VK → Prop} {r : RCd} (h : CallR Y.X f r0) (k : ∀ s H σ M xs ws Q, Std Y s H σ M → WvA Y.X.K H M xs ws → r ws M Q → r0 xs H (up Y H M Q)) : OpC Y f r :=
  fun s H σ M xs ws Q S rx q => semC_of h (k s H σ M xs ws Q S rx q)

/-! ### whole numbers -/
def rInt (C : Int → Int → Prop) (f : Int → Int → PyData) : R2d := fun a b M Q => match a, b with
  | .d (.int i), .d (.int j) => C i j ∧ Q (.d (f i j)) M
  | _, _ => False
def rInt0 (f : Int → Int → PyData) : R2d := fun a b M Q => match a, b with
  | .d (.int i), .d (.int j) => Q (.d (f i j)) M
  | _, _ => False
theorem rInt_get {C : Int → Int → Prop} {f : Int → Int → PyData} {a b : W} {M : MH} {Q : W → MH → Prop} (h : rInt C f a b M Q) : ∃ i j, a = .d (.int i) ∧ b = .d (.int j) ∧ C i j ∧ Q (.d (f i j)) M := by
  unfold rInt at h
  split at h
  · exact ⟨_, _, rfl, rfl, h⟩
  · exact h.elim
theorem rInt0_get {f : Int → Int → PyData} {a b : W} {M : MH} {Q : W → MH → Prop} (h : rInt0 f a b M Q) : ∃ i j, a = .d (.int i) ∧ b = .d (.int j) ∧ Q (.d (f i j)) M := by
  unfold rInt0 at h
  split at h
  · exact ⟨_, _, rfl, rfl, h⟩
  · exact h.elim
theorem op2_int {f : Value → Value → Sem Value} {C : Int → Int → Prop} {fv : Int → Int → V} {fd : Int → Int → PyData} (h : OpR Y.X f (rI C fv)) (e : ∀ K H M i j, Fz K H M (fv i j) (fd i j)) : Op2 Y f (rInt C fd) :=
  op2_of h fun s H σ M x y a b Q S rx ry q => by
    obtain ⟨i, j, rfl, rfl, c, q⟩ := rInt_get q
    exact ⟨i, j, rx.int, ry.int, c, S.here (w := .d (fd i j)) (e _ _ _ _ _) q⟩
theorem op2_int0 {f : Value → Value → Sem Value} {fv : Int → Int → V} {fd : Int → Int → PyData} (h : OpR Y.X f (rI0 fv)) (e : ∀ K H M i j, Fz K H M (fv i j) (fd i j)) : Op2 Y f (rInt0 fd) :=
  op2_of h fun s H σ M x y a b Q S rx ry q => by
    obtain ⟨i, j, rfl, rfl, q⟩ := rInt0_get q
    exact ⟨i, j, rx.int, ry.int, S.here (w := .d (fd i j)) (e _ _ _ _ _) q⟩
theorem o_sub : Op2 Y (binaryOp .Sub) (rInt0 fun i j => .int (i - j)) := op2_int0 op_sub fun _ _ _ _ _ => Fz.int _
def mulOk (i j : Int) : Prop := i.natAbs.log2 + j.natAbs.log2 < 1000000
theorem o_mul : Op2 Y (binaryOp .Mult) (rInt mulOk fun i j => .int (i * j)) := op2_int (C := CMulW) op_mulW fun _ _ _ _ _ => Fz.int _
def divOk (_ j : Int) : Prop := j ≠ 0 ∧ j.natAbs.log2 < 9000
theorem op_fdivA {X : Cx} : OpR X (binaryOp .FloorDiv) (rI divOk fun i j => .int (i.fdiv j)) := opI fun i j _ _ _ _ _ hc q => floordiv_int hc.1 q (.inl (PyProof.noPylong_of_log2 hc.2))
theorem o_fdiv : Op2 Y (binaryOp .FloorDiv) (rInt divOk fun i j => .int (i.fdiv j)) := op2_int op_fdivA fun _ _ _ _ _ => Fz.int _
theorem o_mod : Op2 Y (binaryOp .Mod) (rInt (fun _ j => j ≠ 0) fun i j => .int (i.fmod j)) := op2_int op_modN fun _ _ _ _ _ => Fz.int _
def powOk (i j : Int) : Prop := 0 ≤ j ∧ (Builtin.Int.intBits i : Int) * j ≤ 2 ^ 27
theorem op_powA {X : Cx} : OpR X (binaryOp .Pow) (rI powOk fun i j => .int (i ^ j.toNat)) := opI fun i j _ _ _ _ _ hc q => pow_int hc.1 hc.2 q
theorem o_pow : Op2 Y (binaryOp .Pow) (rInt powOk fun i j => .int (i ^ j.toNat)) := op2_int op_powA fun _ _ _ _ _ => Fz.int _
theorem o_lt : Op2 Y (compareOp .Lt) (rInt0 fun i j => .bool (decide (i < j))) := op2_int0 op_lt fun _ _ _ _ _ => Fz.bl _
theorem o_le : Op2 Y (compareOp .LtE) (rInt0 fun i j => .bool (decide (i ≤ j))) := op2_int0 op_le fun _ _ _ _ _ => Fz.bl _
theorem o_gt : Op2 Y (compareOp .Gt) (rInt0 fun i j => .bool (decide (j < i))) := op2_int0 op_gt fun _ _ _ _ _ => Fz.bl _
theorem o_ge : Op2 Y (compareOp .GtE) (rInt0 fun i j => .bool (decide (j ≤ i))) := op2_int0 op_ge fun _ _ _ _ _ => Fz.bl _

/-! ### + -/
def rCatF (K : PySem.W.Frag) : R2 := fun x y H Q => ∃ a b xs ys, x = .ref a ∧ y = .ref b ∧ SqT K H a xs ∧ SqT K H b ys ∧ xs.length + ys.length ≤ sizeLine ∧ (xs = [] → Q (.ref b) H) ∧ (xs ≠ [] → ys = [] → Q (.ref a) H) ∧
  (xs ≠ [] → ys ≠ [] → ∀ p o, H p = none → Sol o → Q (.ref p) (upd H p (.frz o (.tup (xs ++ ys)))))
theorem op_catF {X : Cx} : OpR X (binaryOp .Add) (rCatF X.K) := by
  rintro pins t σ H _ _ v u Q I rx ry ⟨a, b, xs, ys, rfl, rfl, ha, hb, hz, q0, q1, q2⟩
  cases xs with
  | nil => exact op_catA pins t σ H _ _ v u Q I rx ry ⟨a, b, [], ys, rfl, rfl, ha, hb, hz, q0, fun n => (n rfl).elim, fun n => (n rfl).elim⟩
  | cons x xs =>
    obtain rfl : v = .ref a := rx
    obtain rfl : u = .ref b := ry
    obtain ⟨us, ra, ta, _⟩ := I.tuple ha
    obtain ⟨vs, rb, tb, _⟩ := I.tuple hb
    have lens : us.length + vs.length ≤ sizeLine := by rw [← ra.length, ← rb.length]; exact hz
    exact HT.cat_tup ta tb (fun e => nomatch ra.nil_iff.mp e) (fun e => ⟨.ref a, H, I, rfl, q1 (List.cons_ne_nil _ _) (rb.nil_iff.mp e)⟩)
      (fun n => ep_tup I (ra.append rb) (by rw [List.length_append]; exact hz) (q2 (List.cons_ne_nil _ _) fun e => n (rb.nil_iff.mpr e))) lens
def rAdd : R2d := fun a b M Q => match a, b with
  | .d (.int i), .d (.int j) => Q (.d (.int (i + j))) M
  | .d (.str x), .d (.str y) => small (x.length + y.length) ∧ Q (.d (.str (x ++ y))) M
  | .d (.tuple x), .d (.tuple y) => small (x.length + y.length) ∧ Q (.d (.tuple (x ++ y))) M
  | .d (.list x), .d (.list y) => small (x.length + y.length) ∧ Q (.d (.list (x ++ y))) M
  | _, _ => False
theorem o_add : Op2 Y (binaryOp .Add) rAdd := by
  intro s H σ M x y a b Q S rx ry q
  unfold rAdd at q
  split at q
  · exact semO_of op_add ⟨_, _, rx.int, ry.int, S.here (wInt _) q⟩
  · exact semO_of op_add_str ⟨_, _, rx.str, ry.str, q.1, S.here (wStr _) q.2⟩
  · rename_i ds es
    obtain ⟨p, xs, rfl, h1, h2⟩ := rx.tup
    obtain ⟨p', ys, rfl, h3, h4⟩ := ry.tup
    obtain ⟨hz, q⟩ := q
    refine semO_of op_catF ⟨p, p', xs, ys, rfl, rfl, h1.sq, h3.sq, by rw [h2.length, h4.length]; exact hz, fun e => ?_, fun _ e => ?_, fun _ _ r o n so => up_tup S n so (h2.append h4) q⟩
    · subst e
      cases h2
      exact S.here (w := .d (.tuple es)) (Fz.tup h3 h4) q
    · subst e
      cases h4
      rw [List.append_nil] at q
      exact S.here (w := .d (.tuple ds)) (Fz.tup h1 h2) q
  · obtain ⟨p, xs, rfl, h1, h2⟩ := rx.lst
    obtain ⟨p', ys, rfl, h3, h4⟩ := ry.lst
    obtain ⟨hz, q⟩ := q
    exact semO_of op_cat ⟨p, p', xs, ys, rfl, rfl, h1.1, h3.1, by rw [h2.length, h4.length]; exact hz, fun r n => up_lst S n (h2.append h4) q⟩
  · exact q.elim

/-! ### ==, != -/
def isTup : PyData → Bool | .tuple _ => true | _ => false
def bothS (x y : PyData) : Bool := match x, y with | .str _, .str _ => true | _, _ => false
def eqOk (x y : PyData) : Bool := bothS x y || (x.canLay0 && y.canLay0 && decide (min x.depth y.depth ≤ 64)) || (isTup x && match y with | .tuple [] => true | _ => false)
def rEqd : R2d := fun a b M Q => match a, b with
  | .d x, .d y => eqOk x y = true ∧ Q (.d (.bool (PyData.eqv x y))) M
  | _, _ => False
theorem eqv_tup_nil {xs : List PyData} : PyData.eqv (.tuple xs) (.tuple []) = xs.isEmpty := by
  cases xs <;> simp [PyData.eqv, PyData.eqvAll]
theorem eq_run {g : Gc} {i : Si} {k : Nat} (F : Fm g i k Y) {s' H M x y dx dy} {pins : List (Addr × Obj)} {sh : Shared} {v u : Value} {Q : Value → Shared → Prop} (I : Inv Y.X pins s' H sh) (rx : RelV x v) (ry : RelV y u)
    (hx : Fz Y.X.K H M x dx) (hy : Fz Y.X.K H M y dy) (ok : eqOk dx dy = true) (q : Q (.bool (PyData.eqv dx dy)) sh) : wpAny (model Y.X.prog Y.X.w) Y.X.A (compareOp .Eq v u) Q Y.X.xe sh := by
  obtain ⟨as, r1, _⟩ := Fz.reads I F.sy dx x v hx rx
  obtain ⟨bs, r2, _⟩ := Fz.reads I F.sy dy y u hy ry
  have hu := F.room.un
  unfold eqOk at ok
  rw [Bool.or_eq_true, Bool.or_eq_true] at ok
  rcases ok with (ok | ok) | ok
  · cases dx with
    | str a => cases dy with
      | str b =>
        cases r1
        cases r2
        exact PyProof.Rows.eq_str q
      | _ => cases ok
    | _ => cases ok
  · simp only [Bool.and_eq_true, decide_eq_true_eq] at ok
    exact SeqAt.compareEq_reads r1 r2 ok.1.1 ok.1.2 (by omega) q
  · rw [Bool.and_eq_true] at ok
    cases dx with
    | tuple xs =>
      cases dy with
      | tuple ys =>
        cases ys with
        | cons _ _ => exact absurd ok.2 (by simp)
        | nil =>
          rw [eqv_tup_nil] at q
          cases r1 with
          | @tuple _ o1 vs1 n1 _ _ h1 h2 h3 h4 =>
            cases r2 with
            | @tuple _ o2 vs2 n2 _ _ k1 k2 k3 k4 =>
              cases hv : vs2.toList with
              | cons _ _ => rw [hv] at k4; cases k4
              | nil =>
                have hs : vs2.size = 0 := by rw [← Array.length_toList, hv]; rfl
                refine SeqAt.eq_tupleAt (e := fun _ => true) ⟨o1, h1, h2, n1, h3⟩ ⟨o2, k1, k2, n2, k3⟩ (by omega) (fun j _ h => absurd h (by omega)) ?_
                have hl : vs1.size = xs.length := by rw [← Array.length_toList]; exact SeqAt.ReadsAll.length _ _ _ h4
                have e : ((List.range (min vs1.size vs2.size)).all (fun _ => true) && vs1.size == vs2.size) = xs.isEmpty := by
                  rw [hs, hl]
                  cases xs <;> simp
                rw [e]
                exact q
      | _ => exact absurd ok.2 (by simp)
    | _ => exact absurd ok.1 (by simp [isTup])
theorem ne_run {g : Gc} {i : Si} {k : Nat} (F : Fm g i k Y) {s' H M x y dx dy} {pins : List (Addr × Obj)} {sh : Shared} {v u : Value} {Q : Value → Shared → Prop} (I : Inv Y.X pins s' H sh) (rx : RelV x v) (ry : RelV y u)
    (hx : Fz Y.X.K H M x dx) (hy : Fz Y.X.K H M y dy) (ok : (bothS dx dy || (dx.canLay0 && dy.canLay0 && decide (min dx.depth dy.depth ≤ 64))) = true) (q : Q (.bool (!PyData.eqv dx dy)) sh) : wpAny (model Y.X.prog Y.X.w) Y.X.A (compareOp .NotEq v u) Q Y.X.xe sh := by
  obtain ⟨as, r1, _⟩ := Fz.reads I F.sy dx x v hx rx
  obtain ⟨bs, r2, _⟩ := Fz.reads I F.sy dy y u hy ry
  have hu := F.room.un
  rw [Bool.or_eq_true] at ok
  rcases ok with ok | ok
  · cases dx with
    | str a => cases dy with
      | str b =>
        cases r1
        cases r2
        exact PyProof.Rows.ne_str q
      | _ => cases ok
    | _ => cases ok
  simp only [Bool.and_eq_true, decide_eq_true_eq] at ok
  exact SeqAt.compareNe_reads r1 r2 ok.1.1 ok.1.2 (by omega) q
theorem o_eq {g : Gc} {i : Si} {k : Nat} (F : Fm g i k Y) : Op2 Y (compareOp .Eq) rEqd := by
  intro s H σ M x y a b Q S rx ry q
  unfold rEqd at q
  split at q
  · intro pins sh s' v u I r1 r2
    exact eq_run F I r1 r2 rx ry q.1 ⟨.bl _, H, I, rfl, S.here (wBool _) q.2⟩
  · exact q.elim
def neOk (x y : PyData) : Bool := bothS x y || (x.canLay0 && y.canLay0 && decide (min x.depth y.depth ≤ 64))
def rNed : R2d := fun a b M Q => match a, b with
  | .d x, .d y => neOk x y = true ∧ Q (.d (.bool (!PyData.eqv x y))) M
  | _, _ => False
theorem o_ne {g : Gc} {i : Si} {k : Nat} (F : Fm g i k Y) : Op2 Y (compareOp .NotEq) rNed := by
  intro s H σ M x y a b Q S rx ry q
  unfold rNed at q
  split at q
  · intro pins sh s' v u I r1 r2
    exact ne_run F I r1 r2 rx ry q.1 ⟨.bl _, H, I, rfl, S.here (wBool _) q.2⟩
  · exact q.elim

/-! ### is, is not -/
def isNone : PyData → Bool | .none => true | _ => false
def rIs : R2d := fun a b M Q => match a, b with
  | .d (.bool x), .d (.bool y) => Q (.d (.bool (x == y))) M
  | .d x, .d .none => Q (.d (.bool (isNone x))) M
  | .ref _, .d .none => Q (.d (.bool false)) M
  | .scr _, .d .none => Q (.d (.bool false)) M
  | _, _ => False
def rIsNot : R2d := fun a b M Q => match a, b with
  | .d (.bool x), .d (.bool y) => Q (.d (.bool (!(x == y)))) M
  | .d x, .d .none => Q (.d (.bool (!isNone x))) M
  | .ref _, .d .none => Q (.d (.bool true)) M
  | .scr _, .d .none => Q (.d (.bool true)) M
  | _, _ => False
theorem non_dec {K : PySem.W.Frag} {H : Hp} {M : MH} {v : V} {x : PyData} (h : Fz K H M v x) : decide (v = .non) = isNone x := by
  cases h <;> simp [isNone]
theorem dec_beq {a b : Bool} : decide (a = b) = (a == b) := by cases a <;> cases b <;> rfl
theorem o_is : Op2 Y (compareOp .Is) rIs := by
  intro s H σ M x y a b Q S rx ry q
  unfold rIs at q
  split at q
  · exact semO_of op_isBl ⟨_, _, rx.bool, ry.bool, S.here (wBool _) (by rw [dec_beq]; exact q)⟩
  · refine semO_of op_isN ⟨ry.none, S.here (wBool _) ?_⟩
    rw [non_dec rx]; exact q
  · obtain rfl := (show x = _ from rx)
    exact semO_of op_isN ⟨ry.none, S.here (wBool _) (by simpa using q)⟩
  · obtain ⟨a, xs, rfl, _⟩ := rx
    exact semO_of op_isN ⟨ry.none, S.here (wBool _) (by simpa using q)⟩
  · exact q.elim
theorem o_isNot : Op2 Y (compareOp .IsNot) rIsNot := by
  intro s H σ M x y a b Q S rx ry q
  unfold rIsNot at q
  split at q
  · exact semO_of op_notBl ⟨_, _, rx.bool, ry.bool, S.here (wBool _) (by rw [dec_beq]; exact q)⟩
  · refine semO_of op_notN ⟨ry.none, S.here (wBool _) ?_⟩
    rw [non_dec rx]; exact q
  · obtain rfl := (show x = _ from rx)
    exact semO_of op_notN ⟨ry.none, S.here (wBool _) (by simpa using q)⟩
  · obtain ⟨a, xs, rfl, _⟩ := rx
    exact semO_of op_notN ⟨ry.none, S.here (wBool _) (by simpa using q)⟩
  · exact q.elim

/-! ### in, not in -/
def inOk (x : PyData) (xs : List PyData) : Bool := PyData.canLayAll0 xs && x.canLay0 && decide (min (PyData.depthAll xs) x.depth ≤ 64)
def inD (x : PyData) (xs : List PyData) : Bool := xs.any fun y => PyData.eqv y x
def rInD (neg : Bool) : R2d := fun a b M Q => match a, b with
  | .d (.str x), .d (.str z) => ∃ c, x = ⟨#[c]⟩ ∧ Q (.d (.bool (if neg then !decide (c ∈ z.cps.toList) else decide (c ∈ z.cps.toList)))) M
  | .d x, .d (.tuple xs) => inOk x xs = true ∧ Q (.d (.bool (if neg then !inD x xs else inD x xs))) M
  | .d x, .d (.list xs) => inOk x xs = true ∧ Q (.d (.bool (if neg then !inD x xs else inD x xs))) M
  | .d x, .ref p => ∃ ws, M p = some (.lst ws) ∧ dataQ (fun xs M => inOk x xs = true ∧ Q (.d (.bool (if neg then !inD x xs else inD x xs))) M) ws M
  | _, _ => False
theorem seq_reads {g : Gc} {i : Si} {k : Nat} (F : Fm g i k Y) {s H M} {pins : List (Addr × Obj)} {sh : Shared} (I : Inv Y.X pins s H sh) {p : Addr} {vs : List V} {xs : List PyData} (h : H p = some (.lst vs)) (ha : FzA Y.X.K H M vs xs) :
    ∃ as, Reads sh.heap (.ref p) (.list xs) as := by
  obtain ⟨its, rv, ⟨o, n, ho, hc, _, hd⟩, _⟩ := I.list (SqL.of (K := Y.X.K) h)
  obtain ⟨as, hr, _⟩ := FzA.reads I F.sy xs _ its ha rv
  exact ⟨_, .list ho hc hd hr⟩
theorem o_in {g : Gc} {i : Si} {k : Nat} (F : Fm g i k Y) : Op2 Y (compareOp .In) (rInD false) := by
  intro s H σ M x y a b Q S rx ry q
  have hu := F.room.un
  unfold rInD at q
  split at q
  · obtain ⟨c, rfl, q⟩ := q
    exact semO_of op_in_sign ⟨c, _, rx.str, ry.str, S.here (wBool _) (by simpa using q)⟩
  · intro pins sh s' v u I r1 r2
    obtain ⟨as, h1, _⟩ := Fz.reads I F.sy _ y u ry r2
    obtain ⟨bs, h2, _⟩ := Fz.reads I F.sy _ x v rx r1
    obtain ⟨ok, q⟩ := q
    simp only [inOk, Bool.and_eq_true, decide_eq_true_eq] at ok
    exact SeqAt.in_tuple_reads h1 h2 ok.1.1 ok.1.2 (by omega) ⟨.bl _, H, I, rfl, S.here (w := .d (.bool _)) (wBool _) (by first | exact q | (simp only [if_true, if_false, Bool.false_eq_true] at q; exact q))⟩
  · intro pins sh s' v u I r1 r2
    obtain ⟨as, h1, _⟩ := Fz.reads I F.sy _ y u ry r2
    obtain ⟨bs, h2, _⟩ := Fz.reads I F.sy _ x v rx r1
    obtain ⟨ok, q⟩ := q
    simp only [inOk, Bool.and_eq_true, decide_eq_true_eq] at ok
    exact SeqAt.in_list_reads h1 h2 ok.1.1 ok.1.2 (by omega) ⟨.bl _, H, I, rfl, S.here (w := .d (.bool _)) (wBool _) (by first | exact q | (simp only [if_true, if_false, Bool.false_eq_true] at q; exact q))⟩
  · intro pins sh s' v u I r1 r2
    obtain ⟨ws, hm, q⟩ := q
    obtain ⟨xs, rfl, ok, q⟩ := dataQ_get q
    obtain rfl := (show y = _ from ry)
    cases r2
    obtain ⟨vs, e1, e2⟩ := S.d _ _ hm
    obtain ⟨as, h1⟩ := seq_reads F I e1 (FzA.of_wv e2)
    obtain ⟨bs, h2, _⟩ := Fz.reads I F.sy _ x v rx r1
    simp only [inOk, Bool.and_eq_true, decide_eq_true_eq] at ok
    exact SeqAt.in_list_reads h1 h2 ok.1.1 ok.1.2 (by omega) ⟨.bl _, H, I, rfl, S.here (w := .d (.bool _)) (wBool _) (by first | exact q | (simp only [if_true, if_false, Bool.false_eq_true] at q; exact q))⟩
  · exact q.elim
theorem o_notIn {g : Gc} {i : Si} {k : Nat} (F : Fm g i k Y) : Op2 Y (compareOp .NotIn) (rInD true) := by
  intro s H σ M x y a b Q S rx ry q
  have hu := F.room.un
  unfold rInD at q
  split at q
  · obtain ⟨c, rfl, q⟩ := q
    exact semO_of op_notIn_sign ⟨c, _, rx.str, ry.str, S.here (wBool _) (by simpa using q)⟩
  · intro pins sh s' v u I r1 r2
    obtain ⟨as, h1, _⟩ := Fz.reads I F.sy _ y u ry r2
    obtain ⟨bs, h2, _⟩ := Fz.reads I F.sy _ x v rx r1
    obtain ⟨ok, q⟩ := q
    simp only [inOk, Bool.and_eq_true, decide_eq_true_eq] at ok
    exact SeqAt.notIn_tuple_reads h1 h2 ok.1.1 ok.1.2 (by omega) ⟨.bl _, H, I, rfl, S.here (w := .d (.bool _)) (wBool _) (by first | exact q | (simp only [if_true, if_false, Bool.false_eq_true] at q; exact q))⟩
  · intro pins sh s' v u I r1 r2
    obtain ⟨as, h1, _⟩ := Fz.reads I F.sy _ y u ry r2
    obtain ⟨bs, h2, _⟩ := Fz.reads I F.sy _ x v rx r1
    obtain ⟨ok, q⟩ := q
    simp only [inOk, Bool.and_eq_true, decide_eq_true_eq] at ok
    exact SeqAt.notIn_list_reads h1 h2 ok.1.1 ok.1.2 (by omega) ⟨.bl _, H, I, rfl, S.here (w := .d (.bool _)) (wBool _) (by first | exact q | (simp only [if_true, if_false, Bool.false_eq_true] at q; exact q))⟩
  · intro pins sh s' v u I r1 r2
    obtain ⟨ws, hm, q⟩ := q
    obtain ⟨xs, rfl, ok, q⟩ := dataQ_get q
    obtain rfl := (show y = _ from ry)
    cases r2
    obtain ⟨vs, e1, e2⟩ := S.d _ _ hm
    obtain ⟨as, h1⟩ := seq_reads F I e1 (FzA.of_wv e2)
    obtain ⟨bs, h2, _⟩ := Fz.reads I F.sy _ x v rx r1
    simp only [inOk, Bool.and_eq_true, decide_eq_true_eq] at ok
    exact SeqAt.notIn_list_reads h1 h2 ok.1.1 ok.1.2 (by omega) ⟨.bl _, H, I, rfl, S.here (w := .d (.bool _)) (wBool _) (by first | exact q | (simp only [if_true, if_false, Bool.false_eq_true] at q; exact q))⟩
  · exact q.elim
end
end Dl
set_option Elab.async false
set_option linter.all false
set_option maxRecDepth 100000
namespace Dl
open PySem PySem.Spec PyProof.Rows L2

section
variable {g : Gc} {i : Si} {k : Nat} {Y : Dx}
/-! ### calls of built-ins -/
def tCal (r : RCd) (t : TAd) : TEd := fun σ M Q => t σ M fun ws M1 => r ws M1 Q
theorem call_run {f : Value} {r : RCd} {es : List Expr} {t : TAd} (hc : OpC Y f r) (ha : QA Y es t) {s H σ M Q} (S : Std Y s H σ M) (h : tCal r t σ M Q) : tCB (semC Y.X f) (semA Y.X es) s H (up Y H M Q) :=
  ha.then_ S h fun _ _ _ _ e d rv q => semC_mono (hc _ _ _ _ _ _ _ (S.go e d) rv q) fun _ _ z => z.trans e
theorem q_callB (F : Fm g i k Y) (j : Nat) {x : Str} {id : String} {r : RCd} {e : Expr} {es : List Expr} {t : TAd} {p pos : Pos} (hc : OpC Y (.builtin id) r) (hm : g.mg x = none) (hv : bootBuiltins x = some (.builtin id)) (ha : QA Y (e :: es) t) (hj : i.gls[j]? = some x := by rfl)
    (he : starEach (e :: es) Y.X.env = (false, eval e Y.X.env) :: starEach es Y.X.env := by rfl) (hpl : (backTo pos (starEach es Y.X.env)).any (·.1) = false := by rfl) : QE Y (.Call (.Name x p) (e :: es) [] pos) (tCal r t) := by
  obtain ⟨h1, h2, h3⟩ := F.glo j x hj
  exact ⟨fun s H σ M Q S h => semE_of (pe_callB call_sem h1 (by rw [F.hmg]; exact hm) hv pa_sem h3 h2 he hpl) (call_run hc ha S h)⟩
theorem q_callT (F : Fm g i k Y) (j : Nat) {x : Str} {T : String} {r : RCd} {e : Expr} {es : List Expr} {t : TAd} {p pos : Pos} (hc : OpC Y (.type T) r) (hm : g.mg x = none) (hv : bootBuiltins x = some (.type T)) (ha : QA Y (e :: es) t) (hj : i.gls[j]? = some x := by rfl)
    (he : starEach (e :: es) Y.X.env = (false, eval e Y.X.env) :: starEach es Y.X.env := by rfl) (hpl : (backTo pos (starEach es Y.X.env)).any (·.1) = false := by rfl) : QE Y (.Call (.Name x p) (e :: es) [] pos) (tCal r t) := by
  obtain ⟨h1, h2, h3⟩ := F.glo j x hj
  exact ⟨fun s H σ M Q S h => semE_of (pe_callTy call_sem h1 (by rw [F.hmg]; exact hm) hv pa_sem h3 h2 he hpl) (call_run hc ha S h)⟩
section
variable {K : PySem.W.Frag} {H : Hp} {M : MH}
theorem WvA.one {xs : List V} {w : W} (h : WvA K H M xs [w]) : ∃ v, xs = [v] ∧ Wv K H M v w := by
  cases h with
  | cons a b => cases b; exact ⟨_, rfl, a⟩
theorem WvA.two {xs : List V} {w u : W} (h : WvA K H M xs [w, u]) : ∃ v y, xs = [v, y] ∧ Wv K H M v w ∧ Wv K H M y u := by
  cases h with
  | cons a b =>
    cases b with
    | cons b c => cases c; exact ⟨_, _, rfl, a, b⟩
end
def rLen : RCd := fun ws M Q => match ws with
  | [.d (.str z)] => small z.length ∧ Q (.d (.int z.length)) M
  | [.d (.tuple xs)] => Q (.d (.int xs.length)) M
  | [.d (.list xs)] => Q (.d (.int xs.length)) M
  | [.scr xs] => Q (.d (.int xs.length)) M
  | [.ref p] => ∃ ws, M p = some (.lst ws) ∧ Q (.d (.int ws.length)) M
  | _ => False
theorem c_len : OpC Y (.builtin "len") rLen := by
  intro s H σ M xs ws Q S rx q
  unfold rLen at q
  split at q
  · obtain ⟨v, rfl, r⟩ := rx.one
    exact semC_of call_len_str ⟨_, by rw [r.str], q.1, S.here (wInt _) q.2⟩
  · obtain ⟨v, rfl, r⟩ := rx.one
    obtain ⟨p, ys, rfl, h1, h2⟩ := r.tup
    exact semC_of call_len_seq ⟨p, ys, rfl, .inr h1.sq, S.here (wInt _) (by rw [h2.length]; exact q)⟩
  · obtain ⟨v, rfl, r⟩ := rx.one
    obtain ⟨p, ys, rfl, h1, h2⟩ := r.lst
    exact semC_of call_len_seq ⟨p, ys, rfl, .inl h1.sq, S.here (wInt _) (by rw [h2.length]; exact q)⟩
  · obtain ⟨v, rfl, r⟩ := rx.one
    obtain ⟨p, ys, rfl, h1, h2⟩ := r
    exact semC_of call_len_seq ⟨p, ys, rfl, .inl h1.sq, S.here (wInt _) (by rw [h2.length]; exact q)⟩
  · obtain ⟨v, rfl, r⟩ := rx.one
    obtain ⟨ws', hm, q⟩ := q
    obtain rfl := (show v = _ from r)
    obtain ⟨ys, h1, h2⟩ := S.d _ _ hm
    exact semC_of call_len_seq ⟨_, ys, rfl, .inl (SqL.of h1), S.here (wInt _) (by rw [Paired.length h2]; exact q)⟩
  · exact q.elim
def rAbs : RCd := fun ws M Q => match ws with
  | [.d (.int n)] => Q (.d (.int (n.natAbs : Int))) M
  | _ => False
theorem c_abs : OpC Y (.builtin "abs") rAbs := by
  intro s H σ M xs ws Q S rx q
  unfold rAbs at q
  split at q
  · obtain ⟨v, rfl, r⟩ := rx.one
    rename_i n
    refine semC_of call_abs ⟨n, by rw [r.int], S.here (wInt _) ?_⟩
    rw [show (if n < 0 then -n else n) = (n.natAbs : Int) by split <;> omega]
    exact q
  · exact q.elim
def rMax : RCd := fun ws M Q => match ws with
  | [.d (.int n), .d (.int m)] => Q (.d (.int (max n m))) M
  | _ => False
def rMin : RCd := fun ws M Q => match ws with
  | [.d (.int n), .d (.int m)] => Q (.d (.int (min n m))) M
  | _ => False
theorem c_max (F : Fm g i k Y) (hc : i.hot = false := by rfl) : OpC Y (.builtin "max") rMax := by
  intro s H σ M xs ws Q S rx q
  unfold rMax at q
  split at q
  · obtain ⟨v, u, rfl, r1, r2⟩ := rx.two
    rename_i n m
    refine semC_of (call_max2 (F.calm hc)) ⟨n, m, by rw [r1.int, r2.int], S.here (wInt _) ?_⟩
    rw [show (if m > n then m else n) = max n m by split <;> omega]
    exact q
  · exact q.elim
theorem c_min (F : Fm g i k Y) (hc : i.hot = false := by rfl) : OpC Y (.builtin "min") rMin := by
  intro s H σ M xs ws Q S rx q
  unfold rMin at q
  split at q
  · obtain ⟨v, u, rfl, r1, r2⟩ := rx.two
    rename_i n m
    refine semC_of (call_min2 (F.calm hc)) ⟨n, m, by rw [r1.int, r2.int], S.here (wInt _) ?_⟩
    rw [show (if m < n then m else n) = min n m by split <;> omega]
    exact q
  · exact q.elim
def rToInt : RCd := fun ws M Q => match ws with
  | [.d (.int n)] => Q (.d (.int n)) M
  | [.d (.bool b)] => Q (.d (.int (if b then 1 else 0))) M
  | _ => False
theorem c_int : OpC Y (.type "int") rToInt := by
  intro s H σ M xs ws Q S rx q
  unfold rToInt at q
  split at q
  · obtain ⟨v, rfl, r⟩ := rx.one
    exact semC_of call_int1 (.inl ⟨_, by rw [r.int], S.here (wInt _) q⟩)
  · obtain ⟨v, rfl, r⟩ := rx.one
    exact semC_of call_int1 (.inr ⟨_, by rw [r.bool], S.here (wInt _) q⟩)
  · exact q.elim
def rStrI : RCd := fun ws M Q => match ws with
  | [.d (.int n)] => n.natAbs.log2 < 1920 ∧ Q (.d (.str (toString n))) M
  | _ => False
theorem c_str : OpC Y (.type "str") rStrI := by
  intro s H σ M xs ws Q S rx q
  unfold rStrI at q
  split at q
  · obtain ⟨v, rfl, r⟩ := rx.one
    exact semC_of call_str_int ⟨_, by rw [r.int], q.1, S.here (wStr _) q.2⟩
  · exact q.elim
def showOk (x : PyData) : Prop := x.showable = true ∧ x.shown.length ≤ sizeLine ∧ x.depth ≤ 100
def rRepr : RCd := fun ws M Q => match ws with
  | [.d x] => showOk x ∧ Q (.d (.str x.shown)) M
  | _ => False
theorem c_repr (F : Fm g i k Y) : OpC Y (.builtin "repr") rRepr := by
  intro s H σ M xs ws Q S rx q
  have hu := F.room.un
  unfold rRepr at q
  split at q
  · rename_i x
    obtain ⟨v, rfl, r⟩ := rx.one
    obtain ⟨⟨h1, h2, h3⟩, q⟩ := q
    intro pins sh s' us I ru
    obtain ⟨u, rfl, ru1⟩ := vals1 ru
    clear ru
    have r' : Fz Y.X.K H M v x := r
    obtain ⟨as, rd, hs⟩ := Fz.reads I F.sy x v u r' ru1
    have fin : ∀ h' tk, (∀ b o, sh.heap.get? b = some o → h'.get? b = some o) → ∀ t, EP Y.X pins s' (up Y H M Q) (.str x.shown t) { sh with heap := h', toks := tk } := fun h' tk hk t =>
      ⟨.str x.shown, H, I.kept hk, ⟨t, rfl⟩, S.here (wStr _) q⟩
    cases x with
    | none =>
      cases rd
      simp only [PyData.shown] at fin
      exact PySem.P.repr_of_none (fin sh.heap _ (fun _ _ e => e) _)
    | bool b =>
      cases rd
      simp only [PyData.shown] at fin
      exact PySem.P.repr_of_bool (fin sh.heap _ (fun _ _ e => e) _)
    | int n =>
      cases rd
      simp only [PyData.shown] at fin
      exact PySem.P.repr_of_int (by simpa [PyData.showable] using h1) (fin sh.heap _ (fun _ _ e => e) _)
    | str z =>
      cases rd
      simp only [PyData.shown] at fin h2
      exact PySem.P.repr_of_str (fin sh.heap _ (fun _ _ e => e) _) h2
    | list ds =>
      cases r'
      cases ru1
      exact repr_of_reads' rd h1 (fun _ => hs) F.gd (by omega) (fun _ _ e => e) (fun h' t tk hk => fin h' tk hk t) h2
    | tuple ds =>
      cases r'
      cases ru1
      exact repr_of_reads' rd h1 (fun _ => hs) F.gd (by omega) (fun _ _ e => e) (fun h' t tk hk => fin h' tk hk t) h2
    | dict ds =>
      cases r' <;> cases ru1 <;> exact repr_of_reads' rd h1 (fun _ => hs) F.gd (by omega) (fun _ _ e => e) (fun h' t tk hk => fin h' tk hk t) h2
  · exact q.elim
/-- tuple(x) -/
def rTup : RCd := fun ws M Q => match ws with
  | [.d (.tuple xs)] => Q (.d (.tuple xs)) M
  | [.d (.list xs)] => Q (.d (.tuple xs)) M
  | [.ref p] => ∃ ws, M p = some (.lst ws) ∧ dataQ (fun xs M => Q (.d (.tuple xs)) M) ws M
  | _ => False
theorem call_tupleF {X : Cx} : CallR X (.type "tuple") (fun xs H Q => ∃ p ys, xs = [.ref p] ∧ ((SqL X.K H p ys ∧ ∀ l o, H l = none → Sol o → Q (.ref l) (upd H l (.frz o (.tup ys)))) ∨ (SqT X.K H p ys ∧ Q (.ref p) H))) := by
  rintro pins t σ H _ us Q I rv ⟨p, ys, rfl, ⟨sq, k⟩ | h⟩
  · obtain ⟨_, rfl, r1⟩ := vals1 rv
    cases r1
    obtain ⟨vs, rs, lst, lim⟩ := I.list sq
    have few : vs.toArray.size ≤ sizeLine := by rw [List.size_toArray, ← rs.length]; exact lim
    exact call_tuple_list lst.isList (fun h2 old => ep_tup (t := { t with heap := h2 }) (I.kept (t' := t.toks) old) rs lim k) (by first | exact few | (have := few; simp only [List.size_toArray] at this ⊢; omega))
  · exact call_tuple_of pins t σ H _ us Q I rv ⟨p, ys, rfl, .inr h⟩
theorem c_tup : OpC Y (.type "tuple") rTup := by
  intro s H σ M xs ws Q S rx q
  unfold rTup at q
  split at q
  · obtain ⟨v, rfl, r⟩ := rx.one
    obtain ⟨p, ys, rfl, h1, h2⟩ := r.tup
    exact semC_of call_tupleF ⟨p, ys, rfl, .inr ⟨h1.sq, S.here r q⟩⟩
  · obtain ⟨v, rfl, r⟩ := rx.one
    obtain ⟨p, ys, rfl, h1, h2⟩ := r.lst
    exact semC_of call_tupleF ⟨p, ys, rfl, .inl ⟨h1.sq, fun l o n so => up_tup S n so h2 q⟩⟩
  · obtain ⟨v, rfl, r⟩ := rx.one
    obtain ⟨ws', hm, q⟩ := q
    obtain ⟨ds, rfl, q0⟩ := dataQ_get q
    clear q
    have q := q0
    obtain rfl := (show v = _ from r)
    obtain ⟨ys, h1, h2⟩ := S.d _ _ hm
    exact semC_of call_tupleF ⟨_, ys, rfl, .inl ⟨SqL.of h1, fun l o n so => up_tup S n so (FzA.of_wv h2) q⟩⟩
  · exact q.elim
/-- list(x) -/
def rLst : RCd := fun ws M Q => match ws with
  | [.d (.tuple xs)] => Q (.d (.list xs)) M
  | [.d (.list xs)] => Q (.d (.list xs)) M
  | [.ref p] => ∃ ws, M p = some (.lst ws) ∧ dataQ (fun xs M => Q (.d (.list xs)) M) ws M
  | _ => False
theorem c_lst : OpC Y (.type "list") rLst := by
  intro s H σ M xs ws Q S rx q
  unfold rLst at q
  split at q
  · obtain ⟨v, rfl, r⟩ := rx.one
    obtain ⟨p, ys, rfl, h1, h2⟩ := r.tup
    exact semC_of call_list_of ⟨p, ys, rfl, .inr h1.sq, fun l n => up_lst S n h2 q⟩
  · obtain ⟨v, rfl, r⟩ := rx.one
    obtain ⟨p, ys, rfl, h1, h2⟩ := r.lst
    exact semC_of call_list_of ⟨p, ys, rfl, .inl h1.sq, fun l n => up_lst S n h2 q⟩
  · obtain ⟨v, rfl, r⟩ := rx.one
    obtain ⟨ws', hm, q⟩ := q
    obtain ⟨ds, rfl, q0⟩ := dataQ_get q
    clear q
    have q := q0
    obtain rfl := (show v = _ from r)
    obtain ⟨ys, h1, h2⟩ := S.d _ _ hm
    exact semC_of call_list_of ⟨_, ys, rfl, .inl (SqL.of h1), fun l n => up_lst S n (FzA.of_wv h2) q⟩
  · exact q.elim
/-- all(list of truths), any -/
def bools : List PyData → Option (List Bool)
  | [] => some []
  | .bool b :: r => (bools r).map (b :: ·)
  | _ => none
theorem bools_eq : ∀ {ds : List PyData} {bs : List Bool}, bools ds = some bs → ds = bs.map PyData.bool
  | [], _, h => by cases h; rfl
  | d :: r, bs, h => by
    cases d <;> try (simp [bools] at h; done)
    rename_i b
    unfold bools at h
    cases e : bools r with
    | none => rw [e] at h; cases h
    | some es =>
      rw [e] at h
      cases h
      rw [bools_eq e]
      rfl
theorem bools_map : ∀ bs : List Bool, bools (bs.map PyData.bool) = some bs
  | [] => rfl
  | b :: bs => by show (bools (bs.map PyData.bool)).map (b :: ·) = _; rw [bools_map bs]; rfl
theorem FzA.bls {K : PySem.W.Frag} {H : Hp} {M : MH} : ∀ {bs : List Bool} {xs : List V}, FzA K H M xs (bs.map PyData.bool) → xs = bs.map V.bl
  | [], _, h => by cases h; rfl
  | b :: bs, _, h => by
    cases h with
    | cons h1 h2 => cases h1; rw [FzA.bls h2]; rfl
def rAll : RCd := fun ws M Q => match ws with
  | [.d (.list xs)] => match bools xs with | some bs => Q (.d (.bool (bs.all id))) M | none => False
  | _ => False
def rAny : RCd := fun ws M Q => match ws with
  | [.d (.list xs)] => match bools xs with | some bs => Q (.d (.bool (bs.any id))) M | none => False
  | _ => False
theorem c_all (F : Fm g i k Y) (hc : i.hot = false := by rfl) : OpC Y (.builtin "all") rAll := by
  intro s H σ M xs ws Q S rx q
  unfold rAll at q
  split at q
  · split at q
    · rename_i bs e
      obtain rfl := bools_eq e
      obtain ⟨v, rfl, r⟩ := rx.one
      obtain ⟨p, ys, rfl, h1, h2⟩ := r.lst
      obtain rfl := h2.bls
      exact semC_of (cr_all (F.calm hc)) ⟨p, bs, rfl, h1.sq, S.here (wBool _) q⟩
    · exact q.elim
  · exact q.elim
theorem c_any (F : Fm g i k Y) (hc : i.hot = false := by rfl) : OpC Y (.builtin "any") rAny := by
  intro s H σ M xs ws Q S rx q
  unfold rAny at q
  split at q
  · split at q
    · rename_i bs e
      obtain rfl := bools_eq e
      obtain ⟨v, rfl, r⟩ := rx.one
      obtain ⟨p, ys, rfl, h1, h2⟩ := r.lst
      obtain rfl := h2.bls
      exact semC_of (cr_any (F.calm hc)) ⟨p, bs, rfl, h1.sq, S.here (wBool _) q⟩
    · exact q.elim
  · exact q.elim
def intsD : List PyData → Option (List Int)
  | [] => some []
  | .int b :: r => (intsD r).map (b :: ·)
  | _ => none
theorem intsD_eq : ∀ {ds : List PyData} {bs : List Int}, intsD ds = some bs → ds = bs.map PyData.int
  | [], _, h => by cases h; rfl
  | d :: r, bs, h => by
    cases d <;> try (simp [intsD] at h; done)
    rename_i b
    unfold intsD at h
    cases e : intsD r with
    | none => rw [e] at h; cases h
    | some es =>
      rw [e] at h
      cases h
      rw [intsD_eq e]
      rfl
theorem intsD_map : ∀ bs : List Int, intsD (bs.map PyData.int) = some bs
  | [] => rfl
  | b :: bs => by show (intsD (bs.map PyData.int)).map (b :: ·) = _; rw [intsD_map bs]; rfl
theorem FzA.intsV {K : PySem.W.Frag} {H : Hp} {M : MH} : ∀ {bs : List Int} {xs : List V}, FzA K H M xs (bs.map PyData.int) → xs = bs.map V.int
  | [], _, h => by cases h; rfl
  | b :: bs, _, h => by
    cases h with
    | cons h1 h2 => cases h1; rw [FzA.intsV h2]; rfl
def rSum : RCd := fun ws M Q => match ws with
  | [.d (.list xs)] => match intsD xs with | some ns => Q (.d (.int ns.sum)) M | none => False
  | _ => False
theorem c_sum (F : Fm g i k Y) (hc : i.hot = false := by rfl) : OpC Y (.builtin "sum") rSum := by
  intro s H σ M xs ws Q S rx q
  unfold rSum at q
  split at q
  · split at q
    · rename_i bs e
      obtain rfl := intsD_eq e
      obtain ⟨v, rfl, r⟩ := rx.one
      obtain ⟨p, ys, rfl, h1, h2⟩ := r.lst
      obtain rfl := h2.intsV
      exact semC_of (cr_sum (F.calm hc)) ⟨p, bs, rfl, h1.sq, S.here (wInt _) q⟩
    · exact q.elim
  · exact q.elim

/-! ### isinstance of a built-in class -/
def tyOf : PyData → String
  | .none => "NoneType" | .bool _ => "bool" | .int _ => "int" | .str _ => "str" | .list _ => "list" | .tuple _ => "tuple" | .dict _ => "dict"
def isInt : PyData → Bool | .int _ => true | .bool _ => true | _ => false
def isBool : PyData → Bool | .bool _ => true | _ => false
def isStr : PyData → Bool | .str _ => true | _ => false
def isList : PyData → Bool | .list _ => true | _ => false
def isDict : PyData → Bool | .dict _ => true | _ => false
def IsK (T : String) (f : PyData → Bool) : Prop := ∀ x, kitB (tyOf x) T = some (f x)
theorem kb_NoneType_int : kitB "NoneType" "int" = some false := by decide +kernel
theorem kb_bool_int : kitB "bool" "int" = some true := by decide +kernel
theorem kb_int_int : kitB "int" "int" = some true := by decide +kernel
theorem kb_str_int : kitB "str" "int" = some false := by decide +kernel
theorem kb_list_int : kitB "list" "int" = some false := by decide +kernel
theorem kb_tuple_int : kitB "tuple" "int" = some false := by decide +kernel
theorem kb_dict_int : kitB "dict" "int" = some false := by decide +kernel
theorem isk_int : IsK "int" isInt := fun x => match x with | .none => kb_NoneType_int | .bool _ => kb_bool_int | .int _ => kb_int_int | .str _ => kb_str_int | .list _ => kb_list_int | .tuple _ => kb_tuple_int | .dict _ => kb_dict_int
theorem kb_NoneType_bool : kitB "NoneType" "bool" = some false := by decide +kernel
theorem kb_bool_bool : kitB "bool" "bool" = some true := by decide +kernel
theorem kb_int_bool : kitB "int" "bool" = some false := by decide +kernel
theorem kb_str_bool : kitB "str" "bool" = some false := by decide +kernel
theorem kb_list_bool : kitB "list" "bool" = some false := by decide +kernel
theorem kb_tuple_bool : kitB "tuple" "bool" = some false := by decide +kernel
theorem kb_dict_bool : kitB "dict" "bool" = some false := by decide +kernel
theorem isk_bool : IsK "bool" isBool := fun x => match x with | .none => kb_NoneType_bool | .bool _ => kb_bool_bool | .int _ => kb_int_bool | .str _ => kb_str_bool | .list _ => kb_list_bool | .tuple _ => kb_tuple_bool | .dict _ => kb_dict_bool
theorem kb_NoneType_str : kitB "NoneType" "str" = some false := by decide +kernel
theorem kb_bool_str : kitB "bool" "str" = some false := by decide +kernel
theorem kb_int_str : kitB "int" "str" = some false := by decide +kernel
theorem kb_str_str : kitB "str" "str" = some true := by decide +kernel
theorem kb_list_str : kitB "list" "str" = some false := by decide +kernel
theorem kb_tuple_str : kitB "tuple" "str" = some false := by decide +kernel
theorem kb_dict_str : kitB "dict" "str" = some false := by decide +kernel
theorem isk_str : IsK "str" isStr := fun x => match x with | .none => kb_NoneType_str | .bool _ => kb_bool_str | .int _ => kb_int_str | .str _ => kb_str_str | .list _ => kb_list_str | .tuple _ => kb_tuple_str | .dict _ => kb_dict_str
theorem kb_NoneType_tuple : kitB "NoneType" "tuple" = some false := by decide +kernel
theorem kb_bool_tuple : kitB "bool" "tuple" = some false := by decide +kernel
theorem kb_int_tuple : kitB "int" "tuple" = some false := by decide +kernel
theorem kb_str_tuple : kitB "str" "tuple" = some false := by decide +kernel
theorem kb_list_tuple : kitB "list" "tuple" = some false := by decide +kernel
theorem kb_tuple_tuple : kitB "tuple" "tuple" = some true := by decide +kernel
theorem kb_dict_tuple : kitB "dict" "tuple" = some false := by decide +kernel
theorem isk_tuple : IsK "tuple" isTup := fun x => match x with | .none => kb_NoneType_tuple | .bool _ => kb_bool_tuple | .int _ => kb_int_tuple | .str _ => kb_str_tuple | .list _ => kb_list_tuple | .tuple _ => kb_tuple_tuple | .dict _ => kb_dict_tuple
theorem kb_NoneType_list : kitB "NoneType" "list" = some false := by decide +kernel
theorem kb_bool_list : kitB "bool" "list" = some false := by decide +kernel
theorem kb_int_list : kitB "int" "list" = some false := by decide +kernel
theorem kb_str_list : kitB "str" "list" = some false := by decide +kernel
theorem kb_list_list : kitB "list" "list" = some true := by decide +kernel
theorem kb_tuple_list : kitB "tuple" "list" = some false := by decide +kernel
theorem kb_dict_list : kitB "dict" "list" = some false := by decide +kernel
theorem isk_list : IsK "list" isList := fun x => match x with | .none => kb_NoneType_list | .bool _ => kb_bool_list | .int _ => kb_int_list | .str _ => kb_str_list | .list _ => kb_list_list | .tuple _ => kb_tuple_list | .dict _ => kb_dict_list
theorem kb_NoneType_dict : kitB "NoneType" "dict" = some false := by decide +kernel
theorem kb_bool_dict : kitB "bool" "dict" = some false := by decide +kernel
theorem kb_int_dict : kitB "int" "dict" = some false := by decide +kernel
theorem kb_str_dict : kitB "str" "dict" = some false := by decide +kernel
theorem kb_list_dict : kitB "list" "dict" = some false := by decide +kernel
theorem kb_tuple_dict : kitB "tuple" "dict" = some false := by decide +kernel
theorem kb_dict_dict : kitB "dict" "dict" = some true := by decide +kernel
theorem isk_dict : IsK "dict" isDict := fun x => match x with | .none => kb_NoneType_dict | .bool _ => kb_bool_dict | .int _ => kb_int_dict | .str _ => kb_str_dict | .list _ => kb_list_dict | .tuple _ => kb_tuple_dict | .dict _ => kb_dict_dict
theorem Fz.tyX {K : PySem.W.Frag} {H : Hp} {M : MH} {v : V} {x : PyData} (h : Fz K H M v x) : TyX K H v (.type (tyOf x)) := by
  cases h with
  | non => exact .base .non
  | bl b => exact .base (.bl b)
  | int n => exact .base (.int n)
  | str z => exact .base (.str z)
  | lst h1 h2 => exact .base (.lst h1.1)
  | tup h1 h2 =>
    rcases h1 with ⟨⟨o, h, _⟩, _⟩ | ⟨o, its, n, hk, hc, _⟩
    · exact .fTuple h
    · exact .kTuple hk hc
  | dK h1 h2 h3 => exact .base (.dK h1)
  | dT h1 h2 h3 => exact .base (.dT h1)
def tIsi (f : PyData → Bool) (t : TEd) : TEd := fun σ M Q => t σ M fun w M1 => match w with
  | .d x => Q (.d (.bool (f x))) M1
  | .ref p => ∃ ws, M1 p = some (.lst ws) ∧ Q (.d (.bool (f (.list [])))) M1
  | _ => False
theorem q_isi (F : Fm g i k Y) (j jt : Nat) {T : Str} {n : String} {f : PyData → Bool} {e : Expr} {t : TEd} {p p2 pos : Pos} (hf : IsK n f) (hm : g.mg "isinstance" = none) (hmT : g.mg T = none) (hvT : bootBuiltins T = some (.type n)) (he : QE Y e t)
    (hj : i.gls[j]? = some "isinstance" := by rfl) (hjt : i.gls[jt]? = some T := by rfl)
    (hse : starEach [e, .Name T p2] Y.X.env = (false, eval e Y.X.env) :: starEach [.Name T p2] Y.X.env := by rfl) (hpl : (backTo pos (starEach [.Name T p2] Y.X.env)).any (·.1) = false := by rfl) : QE Y (.Call (.Name "isinstance" p) [e, .Name T p2] [] pos) (tIsi f t) := by
  obtain ⟨h1, h2, h3⟩ := F.glo j _ hj
  obtain ⟨k1, k2, k3⟩ := F.glo jt _ hjt
  refine ⟨fun s H σ M Q S h => ?_⟩
  refine semE_of (pe_callB call_isi h1 (by rw [F.hmg]; exact hm) boot_isinstance (pa_cons (pe_sem (e := e)) (pa_cons (pe_bltn (v := .ty n) (u := .type n) k1 (by rw [F.hmg]; exact hmT) hvT rfl k3 k2) pa_nil) hse) h3 h2 hse hpl) (he.then_ S h fun v H1 w M1 e d r q => ?_)
  cases w with
  | d x => exact ⟨v, .ty n, .type (tyOf x), .type n, f x, rfl, .ty n, Fz.tyX r, kit_ty (hf x), ((S.go e d).here (wBool _) q).trans e⟩
  | ref p =>
    obtain ⟨ws, hm, q⟩ := q
    obtain rfl := (show v = _ from r)
    obtain ⟨ys, hy, _⟩ := d _ _ hm
    exact ⟨.ref p, .ty n, .type "list", .type n, f (.list []), rfl, .ty n, .base (.lst hy), kit_ty (hf (.list [])), ((S.go e d).here (wBool _) q).trans e⟩
  | scr xs => exact q.elim
  | pr xs => exact q.elim
end
end Dl
set_option Elab.async false
set_option linter.all false
set_option maxRecDepth 100000
namespace Dl
open PySem PySem.Spec PyProof.Rows L2

section
variable {g : Gc} {i : Si} {k : Nat} {Y : Dx}
/-! ### an item, a slice -/
def rIxd : R2d := fun a b M Q => match a, b with
  | .d (.tuple ds), .d (.int n) => ∃ d, atI ds n = some d ∧ Q (.d d) M
  | .d (.list ds), .d (.int n) => ∃ d, atI ds n = some d ∧ Q (.d d) M
  | .scr ds, .d (.int n) => ∃ d, atI ds n = some d ∧ Q (.d d) M
  | .d (.str z), .d (.int n) => small z.length ∧ ∃ c, atI z.cps.toList n = some c ∧ Q (.d (.str ⟨#[c]⟩)) M
  | .ref p, .d (.int n) => ∃ ws, M p = some (.lst ws) ∧ ∃ w, atI ws n = some w ∧ Q w M
  | _, _ => False
theorem atI_paired {α β : Type} {R : α → β → Prop} {xs : List α} {ys : List β} (h : Paired R xs ys) {n : Int} {b : β} (e : atI ys n = some b) : ∃ a, atI xs n = some a ∧ R a b := by
  have hl : xs.length = ys.length := Paired.length h
  unfold atI at e ⊢
  rw [hl]
  cases hx : ixN ys.length n with
  | none => rw [hx] at e; cases e
  | some j =>
    rw [hx] at e
    have e' : ys[j]? = some b := e
    have : ∀ {xs : List α} {ys : List β} {j : Nat}, Paired R xs ys → ys[j]? = some b → ∃ a, xs[j]? = some a ∧ R a b := by
      intro xs ys j h
      induction h generalizing j with
      | nil => intro q; simp at q
      | cons r t ih =>
        intro q
        cases j with
        | zero => simp at q; subst q; exact ⟨_, rfl, r⟩
        | succ j => obtain ⟨a, z1, z2⟩ := ih (j := j) (by simpa using q); exact ⟨a, by simpa using z1, z2⟩
    exact this h e'
theorem FzA.at {K : PySem.W.Frag} {H : Hp} {M : MH} {xs : List V} {ds : List PyData} (h : FzA K H M xs ds) {n : Int} {d : PyData} (e : atI ds n = some d) : ∃ v, atI xs n = some v ∧ Fz K H M v d := by
  have e' : atI (ds.map W.d) n = some (.d d) := by
    unfold atI at e ⊢
    rw [List.length_map]
    cases hx : ixN ds.length n with
    | none => rw [hx] at e; cases e
    | some j =>
      rw [hx] at e
      have q : ds[j]? = some d := e
      show (ds.map W.d)[j]? = _
      rw [List.getElem?_map, q]
      rfl
  exact atI_paired h.wv e'
theorem o_ix : ∀ (s : L2.St) (H : Hp) (σ : SD) (M : MH) (x y : V) (a b : W) (Q : W → MH → Prop), Std Y s H σ M → Wv Y.X.K H M x a → Wv Y.X.K H M y b → rIxd a b M Q → rIx Y.X.K x y H (up Y H M Q) := by
  intro s H σ M x y a b Q S rx ry q
  unfold rIxd at q
  split at q
  · obtain ⟨p, xs, rfl, h1, h2⟩ := rx.tup
    obtain ⟨d, e, q⟩ := q
    obtain ⟨v, e1, e2⟩ := h2.at e
    exact .inr (.inl ⟨p, xs, _, v, rfl, ry.int, h1.sq, e1, S.here (w := .d d) e2 q⟩)
  · obtain ⟨p, xs, rfl, h1, h2⟩ := rx.lst
    obtain ⟨d, e, q⟩ := q
    obtain ⟨v, e1, e2⟩ := h2.at e
    exact .inl ⟨p, xs, _, v, rfl, ry.int, h1.sq, e1, S.here (w := .d d) e2 q⟩
  · obtain ⟨p, xs, rfl, h1, h2⟩ := rx
    obtain ⟨d, e, q⟩ := q
    obtain ⟨v, e1, e2⟩ := h2.at e
    exact .inl ⟨p, xs, _, v, rfl, ry.int, h1.sq, e1, S.here (w := .d d) e2 q⟩
  · obtain ⟨hz, c, e, q⟩ := q
    exact .inr (.inr ⟨_, _, c, rx.str, ry.int, hz, e, S.here (wStr _) q⟩)
  · obtain ⟨ws, hm, w, e, q⟩ := q
    obtain rfl := (show x = _ from rx)
    obtain ⟨xs, h1, h2⟩ := S.d _ _ hm
    obtain ⟨v, e1, e2⟩ := atI_paired h2 e
    exact .inl ⟨_, xs, _, v, rfl, ry.int, SqL.of h1, e1, S.here e2 q⟩
  · exact q.elim
theorem q_ix {a b : Expr} {ta tb : TEd} {pos : Pos} (ha : QE Y a ta) (hb : QE Y b tb) (hs : PlainIx b := by intro _ _; rfl) : QE Y (.Subscript a b pos) (tBin rIxd ta tb) :=
  ⟨fun s H σ M Q S h => semE_of (pe_ix ix_seq pe_sem pe_sem hs) (ha.then_ S h fun _ H1 _ _ e d rv q => hb.then_ (S.go e d) q fun _ _ _ _ e2 d2 rv2 q2 => by
    have z := o_ix _ _ _ _ _ _ _ _ _ ((S.go e d).go e2 d2) (rv.ext e2) rv2 q2
    rcases z with ⟨p, xs, n, v, z1, z2, z3, z4, z5⟩ | ⟨p, xs, n, v, z1, z2, z3, z4, z5⟩ | ⟨p, xs, c, z1, z2, z3, z4, z5⟩
    · exact .inl ⟨p, xs, n, v, z1, z2, z3, z4, z5.trans (e.trans e2)⟩
    · exact .inr (.inl ⟨p, xs, n, v, z1, z2, z3, z4, z5.trans (e.trans e2)⟩)
    · exact .inr (.inr ⟨p, xs, c, z1, z2, z3, z4, z5.trans (e.trans e2)⟩))⟩

/-! ### what is walked -/
def JL (K : PySem.W.Frag) (J : It) (H1 : Hp) (M1 : MH) (ws : List W) (kc : MH → Prop) : Prop := ∀ H2 M2, Ext H1 M1 H2 M2 → Dok K H2 M2 → kc M2 →
  (∀ j w, ws[j]? = some w → J.go j H2 ∧ ∀ x H3, J.yld j H2 x H3 → Ext H2 M2 H3 M2 ∧ Dok K H3 M2 ∧ Wv K H3 M2 x w) ∧ J.stop ws.length H2
def semIt (X : Cx) (tg iter : Expr) : TI := fun s H R => ∀ pins sh, Inv X pins s H sh → wpAny (model X.prog X.w) X.A (eval iter X.env) (fun v s1 => wpAny (model X.prog X.w) X.A (pyIter v) (PIE X pins s tg R) X.xe s1) X.xe sh
theorem pi_sem {X : Cx} {tg iter : Expr} : PI X tg iter (semIt X tg iter) := ⟨fun pins s _ _ _ I h => h pins s I⟩
theorem semIt_of {X : Cx} {tg iter : Expr} {wi : TI} (h : PI X tg iter wi) {s : L2.St} {H : Hp} {R : It → Hp → Prop} (q : wi s H R) : semIt X tg iter s H R := fun pins sh I => h.run pins sh s H R I q
abbrev TId := SD → MH → (List W → (MH → Prop) → MH → Prop) → Prop
def upI (Y : Dx) (H : Hp) (M : MH) (Q : List W → (MH → Prop) → MH → Prop) : It → Hp → Prop := fun J H1 => ∃ ws kc M1, Ext H M H1 M1 ∧ Dok Y.X.K H1 M1 ∧ JL Y.X.K J H1 M1 ws kc ∧ Q ws kc M1
structure QI (Y : Dx) (tg iter : Expr) (ti : TId) : Prop where
  run : ∀ s H σ M Q, Std Y s H σ M → ti σ M Q → semIt Y.X tg iter s H (upI Y H M Q)
def noKc : MH → Prop := fun _ => True
def iTupD (t : TEd) : TId := fun σ M Q => t σ M fun w M1 => match w with | .d (.tuple ds) => Q (ds.map W.d) noKc M1 | _ => False
def iLstD (t : TEd) : TId := fun σ M Q => t σ M fun w M1 => match w with
  | .d (.list ds) => Q (ds.map W.d) noKc M1
  | .scr ds => Q (ds.map W.d) noKc M1
  | .ref p => ∃ ws, M1 p = some (.lst ws) ∧ Q ws (fun M => M p = some (.lst ws)) M1
  | _ => False
theorem getElem?_mapd {ds : List PyData} {j : Nat} {w : W} (e : (ds.map W.d)[j]? = some w) : ∃ d, w = .d d ∧ ds[j]? = some d := by
  rw [List.getElem?_map] at e
  cases h : ds[j]? with
  | none => rw [h] at e; cases e
  | some d => rw [h] at e; cases e; exact ⟨d, rfl, rfl⟩
theorem jl_list {K : PySem.W.Frag} {H1 : Hp} {M1 : MH} {a : Addr} {ws : List W} {kc : MH → Prop} (h : ∀ H2 M2, Ext H1 M1 H2 M2 → Dok K H2 M2 → kc M2 → ∃ xs, (∀ ys, SqL K H2 a ys → ys.length = xs.length → True) ∧ SqL K H2 a xs ∧ WvA K H2 M2 xs ws) : JL K (Itl K a) H1 M1 ws kc := by
  intro H2 M2 e d c
  obtain ⟨xs, _, hs, hw⟩ := h H2 M2 e d c
  have hl : xs.length = ws.length := Paired.length hw
  refine ⟨fun j w ej => ?_, ⟨xs, hs, by omega⟩⟩
  have : ∀ {xs : List V} {ws : List W} {j : Nat} {w : W}, WvA K H2 M2 xs ws → ws[j]? = some w → ∃ x, xs[j]? = some x ∧ Wv K H2 M2 x w := by
    intro xs ws j w h
    induction h generalizing j with
    | nil => intro q; simp at q
    | cons r t ih =>
      intro q
      cases j with
      | zero => simp at q; subst q; exact ⟨_, rfl, r⟩
      | succ j => obtain ⟨a, z1, z2⟩ := ih (j := j) (by simpa using q); exact ⟨a, by simpa using z1, z2⟩
  obtain ⟨x, ex, rx⟩ := this hw ej
  refine ⟨⟨xs, x, hs, ex⟩, fun y H3 ⟨e3, hy⟩ => ?_⟩
  subst e3
  have q := hy xs hs
  rw [ex] at q
  cases q
  exact ⟨.refl _ _, d, rx⟩
theorem jl_tup {K : PySem.W.Frag} {H1 : Hp} {M1 : MH} {a : Addr} {ws : List W} {kc : MH → Prop} (h : ∀ H2 M2, Ext H1 M1 H2 M2 → Dok K H2 M2 → kc M2 → ∃ xs, SqT K H2 a xs ∧ WvA K H2 M2 xs ws) : JL K (Itt K a) H1 M1 ws kc := by
  intro H2 M2 e d c
  obtain ⟨xs, hs, hw⟩ := h H2 M2 e d c
  have hl : xs.length = ws.length := Paired.length hw
  refine ⟨fun j w ej => ?_, ⟨xs, hs, by omega⟩⟩
  have : ∀ {xs : List V} {ws : List W} {j : Nat} {w : W}, WvA K H2 M2 xs ws → ws[j]? = some w → ∃ x, xs[j]? = some x ∧ Wv K H2 M2 x w := by
    intro xs ws j w h
    induction h generalizing j with
    | nil => intro q; simp at q
    | cons r t ih =>
      intro q
      cases j with
      | zero => simp at q; subst q; exact ⟨_, rfl, r⟩
      | succ j => obtain ⟨a, z1, z2⟩ := ih (j := j) (by simpa using q); exact ⟨a, by simpa using z1, z2⟩
  obtain ⟨x, ex, rx⟩ := this hw ej
  refine ⟨⟨xs, x, hs, ex⟩, fun y H3 ⟨e3, hy⟩ => ?_⟩
  subst e3
  have q := hy xs hs
  rw [ex] at q
  cases q
  exact ⟨.refl _ _, d, rx⟩
theorem i_tup {tg e : Expr} {t : TEd} (he : QE Y e t) : QI Y tg e (iTupD t) := by
  refine ⟨fun s H σ M Q S h => semIt_of (pi_tup pe_sem) (he.then_ S h fun v H1 w M1 e d r q => ?_)⟩
  split at q
  · rename_i ds
    obtain ⟨p, xs, rfl, h1, h2⟩ := r.tup
    exact ⟨p, rfl, ⟨xs, h1.sq⟩, _, _, M1, e, d, jl_tup fun H2 M2 e2 d2 _ => ⟨xs, (h1.ext e2).sq, (FzA.ext e2 ds xs h2).wv⟩, q⟩
  · exact q.elim
theorem i_lst {tg e : Expr} {t : TEd} (he : QE Y e t) : QI Y tg e (iLstD t) := by
  refine ⟨fun s H σ M Q S h => semIt_of (pi_list pe_sem) (he.then_ S h fun v H1 w M1 e d r q => ?_)⟩
  split at q
  · rename_i ds
    obtain ⟨p, xs, rfl, h1, h2⟩ := r.lst
    exact ⟨p, rfl, ⟨xs, h1.sq⟩, _, _, M1, e, d, jl_list fun H2 M2 e2 d2 _ => ⟨xs, fun _ _ _ => trivial, (h1.ext e2).sq, (FzA.ext e2 ds xs h2).wv⟩, q⟩
  · rename_i ds
    obtain ⟨p, xs, rfl, h1, h2⟩ := r
    exact ⟨p, rfl, ⟨xs, h1.sq⟩, _, _, M1, e, d, jl_list fun H2 M2 e2 d2 _ => ⟨xs, fun _ _ _ => trivial, (h1.ext e2).sq, (FzA.ext e2 ds xs h2).wv⟩, q⟩
  · obtain ⟨ws, hm, q⟩ := q
    obtain rfl := (show v = _ from r)
    obtain ⟨xs, h1, h2⟩ := d _ _ hm
    refine ⟨_, rfl, ⟨xs, SqL.of h1⟩, _, _, M1, e, d, jl_list fun H2 M2 e2 d2 c => ?_, q⟩
    obtain ⟨ys, k1, k2⟩ := d2 _ _ c
    exact ⟨ys, fun _ _ _ => trivial, SqL.of k1, k2⟩
  · exact q.elim
def signs (z : Str) : List W := z.cps.toList.map fun c => W.d (.str ⟨#[c]⟩)
def iStrD (t : TEd) : TId := fun σ M Q => t σ M fun w M1 => match w with | .d (.str z) => Q (signs z) noKc M1 | _ => False
theorem i_str {tg e : Expr} {t : TEd} (he : QE Y e t) : QI Y tg e (iStrD t) := by
  refine ⟨fun s H σ M Q S h => semIt_of (pi_str pe_sem) (he.then_ S h fun v H1 w M1 e d r q => ?_)⟩
  split at q
  · rename_i z
    refine ⟨z, r.str, _, _, M1, e, d, fun H2 M2 e2 d2 _ => ⟨fun j w ej => ?_, ?_⟩, q⟩
    · unfold signs at ej
      rw [List.getElem?_map, Array.getElem?_toList] at ej
      cases hc : z.cps[j]? with
      | none => rw [hc] at ej; cases ej
      | some c =>
        rw [hc] at ej
        cases ej
        refine ⟨(Array.getElem?_eq_some_iff.mp hc).1, fun x H3 ⟨e3, c', hc', ex⟩ => ?_⟩
        subst e3 ex
        rw [hc] at hc'
        cases hc'
        exact ⟨.refl _ _, d2, wStr _⟩
    · show z.cps.size ≤ _
      simp [signs]
  · exact q.elim
def rng (lo : Int) (n : Nat) : List W := (List.range n).map fun (j : Nat) => W.d (.int (lo + (j : Int)))
def big62 (n : Int) : Prop := -(2 ^ 62) ≤ n ∧ n < 2 ^ 62
theorem jl_rng {K : PySem.W.Frag} {H1 : Hp} {M1 : MH} {lo : Int} {n : Nat} : JL K (Itr lo n) H1 M1 (rng lo n) noKc := by
  intro H2 M2 e d _
  refine ⟨fun j w ej => ?_, ?_⟩
  · unfold rng at ej
    rw [List.getElem?_map] at ej
    cases h : (List.range n)[j]? with
    | none => rw [h] at ej; cases ej
    | some m =>
      rw [h] at ej
      cases ej
      obtain ⟨h1, h2⟩ := List.getElem?_eq_some_iff.mp h
      rw [List.length_range] at h1
      have h3 : j = m := by simpa using h2
      subst h3
      refine ⟨h1, fun x H3 ⟨e3, ex⟩ => ?_⟩
      subst e3 ex
      exact ⟨.refl _ _, d, wInt _⟩
  · show n ≤ _
    simp [rng]
def iRng1D (t : TAd) : TId := fun σ M Q => t σ M fun ws M1 => match ws with | [.d (.int n)] => big62 n ∧ Q (rng 0 n.toNat) noKc M1 | _ => False
def iRng2D (t : TAd) : TId := fun σ M Q => t σ M fun ws M1 => match ws with | [.d (.int m), .d (.int n)] => big62 m ∧ big62 n ∧ Q (rng m (n - m).toNat) noKc M1 | _ => False
theorem i_rng1 (F : Fm g i k Y) (j : Nat) {tg a : Expr} {t : TAd} {p pos : Pos} (hm : g.mg "range" = none) (ha : QA Y [a] t) (hj : i.gls[j]? = some "range" := by rfl) (hs : starEach [a] Y.X.env = [(false, eval a Y.X.env)] := by rfl) : QI Y tg (.Call (.Name "range" p) [a] [] pos) (iRng1D t) := by
  obtain ⟨h1, _, _⟩ := F.glo j _ hj
  refine ⟨fun s H σ M Q S h => semIt_of (pi_range1 h1 (by rw [F.hmg]; exact hm) pa_sem hs) (ha.then_ S h fun v H1 w M1 e d r q => ?_)⟩
  split at q
  · obtain ⟨v, rfl, r1⟩ := r.one
    exact ⟨_, by rw [r1.int], q.1.1, q.1.2, _, _, M1, e, d, jl_rng, q.2⟩
  · exact q.elim
theorem i_rng2 (F : Fm g i k Y) (j : Nat) {tg a b : Expr} {t : TAd} {p pos : Pos} (hm : g.mg "range" = none) (ha : QA Y [a, b] t) (hj : i.gls[j]? = some "range" := by rfl) (hs : starEach [a, b] Y.X.env = [(false, eval a Y.X.env), (false, eval b Y.X.env)] := by rfl)
    (hs2 : starEach [b] Y.X.env = [(false, eval b Y.X.env)] := by rfl) : QI Y tg (.Call (.Name "range" p) [a, b] [] pos) (iRng2D t) := by
  obtain ⟨h1, _, _⟩ := F.glo j _ hj
  refine ⟨fun s H σ M Q S h => semIt_of (pi_range2 h1 (by rw [F.hmg]; exact hm) pa_sem hs hs2) (ha.then_ S h fun v H1 w M1 e d r q => ?_)⟩
  split at q
  · obtain ⟨v, u, rfl, r1, r2⟩ := r.two
    exact ⟨_, _, by rw [r1.int, r2.int], ⟨q.1.1, q.1.2, q.2.1.1, q.2.1.2⟩, _, _, M1, e, d, jl_rng, q.2.2⟩
  · exact q.elim

/-! ### targets -/
def semG (X : Cx) (tg : Expr) : TG := fun v s H Q => ∀ pins sh u, Inv X pins s H sh → RelV v u → wpAny (model X.prog X.w) X.A (assign tg X.env u) (fun _ s' => ∃ σ' H', Inv X pins σ' H' s' ∧ Q σ' H') X.xe sh
theorem pg_sem {X : Cx} {tg : Expr} : PG X tg (semG X tg) := ⟨fun pins s _ _ _ u _ I r h => h pins s u I r⟩
theorem semG_of {X : Cx} {tg : Expr} {t : TG} (h : PG X tg t) {v : V} {s : L2.St} {H : Hp} {Q : L2.St → Hp → Prop} (q : t v s H Q) : semG X tg v s H Q := fun pins sh u I r => h.run pins sh s H v u Q I r q
theorem semG_mono {X : Cx} {tg : Expr} {v : V} {s : L2.St} {H : Hp} {Q Q' : L2.St → Hp → Prop} (h : semG X tg v s H Q) (k : ∀ σ H, Q σ H → Q' σ H) : semG X tg v s H Q' := fun pins sh u I r =>
  thn (h pins sh u I r) fun _ _ ⟨σ', H', I', q⟩ => ⟨σ', H', I', k _ _ q⟩
abbrev TGd := W → SD → MH → (SD → MH → Prop) → Prop
structure QG (Y : Dx) (tg : Expr) (t : TGd) : Prop where
  run : ∀ s H σ M v w Q, Std Y s H σ M → Wv Y.X.K H M v w → t w σ M Q → semG Y.X tg v s H (upS Y H M Q)
def gNam (j : Nat) : TGd := fun w σ M Q => Q (σ.set j (some w)) M
theorem g_name (F : Fm g i k Y) (j : Nat) {x : Str} {pos : Pos} (hN : i.N[j]? = some x := by rfl) (hl : i.loc.contains j = true := by rfl) : QG Y (.Name x pos) (gNam j) := by
  have hk := F.loc j x hl hN
  exact ⟨fun s H σ M v w Q S r h => semG_of (pg_name (i := j) (by rw [F.N]; exact F.nd) (by rw [F.N]; exact hN) (.inl hk) (.inr hk)) ⟨_, M, .refl _ _, S.set r j, h⟩⟩
theorem g_cell (F : Fm g i k Y) (j : Nat) {x : Str} {pos : Pos} (hN : i.N[j]? = some x := by rfl) (hl : i.cel.contains j = true := by rfl) : QG Y (.Name x pos) (gNam j) := by
  have hk := F.cel j x hl hN
  exact ⟨fun s H σ M v w Q S r h => semG_of (pg_name (i := j) (by rw [F.N]; exact F.nd) (by rw [F.N]; exact hN) (.inr hk.1) (.inl hk.2)) ⟨_, M, .refl _ _, S.set r j, h⟩⟩
/-- (a, b, ..) = a tuple -/
abbrev TGsd := List W → SD → MH → (SD → MH → Prop) → Prop
def semGs (X : Cx) (ts : List Expr) : TGs := fun vs s H Q => ∀ pins sh us, Inv X pins s H sh → Vals vs us → wpAny (model X.prog X.w) X.A (assignInOrder ((assignEach ts X.env).map (·.2)) us) (fun _ s' => ∃ σ' H', Inv X pins σ' H' s' ∧ Q σ' H') X.xe sh
theorem pgs_sem {X : Cx} {ts : List Expr} : PGs X ts (semGs X ts) := ⟨fun pins s _ _ _ us _ I r h => h pins s us I r⟩
theorem semGs_of {X : Cx} {ts : List Expr} {t : TGs} (h : PGs X ts t) {vs : List V} {s : L2.St} {H : Hp} {Q : L2.St → Hp → Prop} (q : t vs s H Q) : semGs X ts vs s H Q := fun pins sh us I r => h.run pins sh s H vs us Q I r q
theorem semGs_mono {X : Cx} {ts : List Expr} {vs : List V} {s : L2.St} {H : Hp} {Q Q' : L2.St → Hp → Prop} (h : semGs X ts vs s H Q) (k : ∀ σ H, Q σ H → Q' σ H) : semGs X ts vs s H Q' := fun pins sh us I r =>
  thn (h pins sh us I r) fun _ _ ⟨σ', H', I', q⟩ => ⟨σ', H', I', k _ _ q⟩
structure QGs (Y : Dx) (ts : List Expr) (t : TGsd) : Prop where
  run : ∀ s H σ M vs ws Q, Std Y s H σ M → WvA Y.X.K H M vs ws → t ws σ M Q → semGs Y.X ts vs s H (upS Y H M Q)
def gNilD : TGsd := fun ws σ M Q => match ws with | [] => Q σ M | _ => False
def gConsD (t : TGd) (u : TGsd) : TGsd := fun ws σ M Q => match ws with | w :: r => t w σ M fun σ' M' => u r σ' M' Q | [] => False
theorem gs_nil : QGs Y [] gNilD := by
  refine ⟨fun s H σ M vs ws Q S r h => ?_⟩
  cases r with
  | nil => exact semGs_of pgs_nil ⟨rfl, σ, M, .refl _ _, S, h⟩
  | cons _ _ => exact (show False from h).elim
theorem gs_cons {e : Expr} {es : List Expr} {t : TGd} {u : TGsd} (h1 : QG Y e t) (h2 : QGs Y es u) (hs : (assignEach (e :: es) Y.X.env).map (·.2) = assign e Y.X.env :: (assignEach es Y.X.env).map (·.2) := by rfl) : QGs Y (e :: es) (gConsD t u) := by
  refine ⟨fun s H σ M vs ws Q S r h => ?_⟩
  cases r with
  | nil => exact (show False from h).elim
  | cons r1 r2 =>
    refine semGs_of (pgs_cons pg_sem pgs_sem hs) ⟨_, _, rfl, semG_mono (h1.run s H σ M _ _ _ S r1 h) fun s1 H1 ⟨σ1, M1, e, S1, q⟩ => ?_⟩
    exact semGs_mono (h2.run s1 H1 σ1 M1 _ _ _ S1 (WvA.ext e r2) q) fun _ _ z => z.trans e
def gTupD (n : Nat) (t : TGsd) : TGd := fun w σ M Q => match w with
  | .d (.tuple ds) => ds.length = n ∧ t (ds.map W.d) σ M Q
  | .pr ds => ds.length = n ∧ t (ds.map W.d) σ M Q
  | _ => False
theorem Wv.pr {K : PySem.W.Frag} {H : Hp} {M : MH} {v : V} {ds : List PyData} (h : Wv K H M v (.pr ds)) : ∃ a xs, v = .ref a ∧ SqT K H a xs ∧ FzA K H M xs ds := by
  obtain ⟨a, xs, e, h1, h2⟩ := h
  exact ⟨a, xs, e, .inl h1.1, h2⟩
theorem g_tup (F : Fm g i k Y) {es : List Expr} {kk : Nat} {t : TGsd} {n : Nat} {pos : Pos} (h : QGs Y es t) (hn : (assignEach es Y.X.env).length = n := by rfl) (hst : (assignEach es Y.X.env).findIdx? (·.1) = none := by rfl) (hc : i.hot = false := by rfl) : QG Y (.Tuple es kk pos) (gTupD n t) := by
  refine ⟨fun s H σ M v w Q S r hq => ?_⟩
  unfold gTupD at hq
  split at hq
  · obtain ⟨p, xs, rfl, h1, h2⟩ := r.tup
    exact semG_of (pg_tup (F.calm hc) pgs_sem hn hst) ⟨p, xs, rfl, h1.sq, by rw [h2.length]; exact hq.1, h.run s H σ M xs _ Q S h2.wv hq.2⟩
  · obtain ⟨p, xs, rfl, h1, h2⟩ := r.pr
    exact semG_of (pg_tup (F.calm hc) pgs_sem hn hst) ⟨p, xs, rfl, h1, by rw [h2.length]; exact hq.1, h.run s H σ M xs _ Q S h2.wv hq.2⟩
  · exact hq.elim
end
end Dl
set_option Elab.async false
set_option linter.all false
set_option maxRecDepth 100000
namespace Dl
open PySem PySem.Spec PyProof.Rows L2

section
variable {g : Gc} {i : Si} {k : Nat} {Y : Dx}
/-! ### statements -/
def tNxt : TSd := fun D σ M => D.nx σ M
def tSq (t u : TSd) : TSd := fun D σ M => t { D with nx := u D } σ M
theorem ss_nil : QSs Y [] tNxt := ⟨fun _ _ σ M _ S h => semSs_of pss_nil ⟨σ, M, .refl _ _, S, h⟩⟩
theorem ss_cons {st : Stmt} {rest : List Stmt} {t u : TSd} (h1 : QS Y st t) (h2 : QSs Y rest u) : QSs Y (st :: rest) (tSq t u) := by
  refine ⟨fun s H σ M D S h => semSs_of (pss_cons ps_sem pss_sem) ?_⟩
  exact semS_mono (h1.run s H σ M { D with nx := u D } S h) (fun s1 H1 ⟨σ1, M1, e, S1, q⟩ => semSs_up e (h2.run s1 H1 σ1 M1 D S1 q)) (fun _ _ z => z) (fun _ _ z => z) fun _ _ z => z
theorem ss_one {st : Stmt} {t : TSd} (h1 : QS Y st t) : QSs Y [st] t := ⟨fun s H σ M D S h => semSs_of (pss_one ps_sem) (h1.run s H σ M D S h)⟩
def tRtn (t : TEd) : TSd := fun D σ M => t σ M D.rt
theorem s_ret {e : Expr} {t : TEd} {pos : Pos} (h : QE Y e t) : QS Y (.Return (some e) pos) (tRtn t) := ⟨fun s H σ M D S hq => semS_of (ps_ret pe_sem) (h.run s H σ M D.rt S hq)⟩
def tRtn0 : TSd := fun D _ M => D.rt (.d .none) M
theorem s_ret0 {pos : Pos} : QS Y (.Return none pos) tRtn0 := ⟨fun _ _ _ _ _ S h => semS_of ps_retN (S.here wNone h)⟩
def tIfD (c : TTd) (t u : TSd) : TSd := fun D σ M => c σ M fun b M1 => if b = true then t D σ M1 else u D σ M1
theorem s_if {c : Expr} {a b : List Stmt} {tc : TTd} {t u : TSd} {pos : Pos} (hc : QT Y c tc) (ha : QSs Y a t) (hb : QSs Y b u) : QS Y (.If c a b pos) (tIfD tc t u) := by
  refine ⟨fun s H σ M D S hq => semS_of (ps_if pt_sem pss_sem pss_sem) (hc.then_ S hq fun c H1 M1 e d q => ?_)⟩
  cases c with
  | true => exact iteT (semSs_up e (ha.run s H1 σ M1 D (S.go e d) (by simpa using q)))
  | false => exact iteF (semSs_up e (hb.run s H1 σ M1 D (S.go e d) (by simpa using q)))
def tAsn (t : TEd) (gt : TGd) : TSd := fun D σ M => t σ M fun w M1 => gt w σ M1 D.nx
theorem s_set {tg e : Expr} {t : TEd} {gt : TGd} {pos : Pos} (he : QE Y e t) (hg : QG Y tg gt) (hs : swapsWithSole [tg] e pos.line Y.X.env = pure false := by rfl) (hw : swappedStores [tg] e Y.X.env = pure none := by rfl)
    (h1 : (assignEach [tg] Y.X.env).map (·.2) = [assign tg Y.X.env] := by rfl) : QS Y (.Assign [tg] e pos) (tAsn t gt) := by
  refine ⟨fun s H σ M D S h => semS_of (ps_asg pe_sem pg_sem hs hw h1) (he.then_ S h fun v H1 w M1 e d r q => ?_)⟩
  exact semG_mono (hg.run s H1 σ M1 v w D.nx (S.go e d) r q) fun _ _ z => z.trans e
/-- a, b = x, y with plain local names -/
def tPr (a b : Nat) (t : TAd) : TSd := fun D σ M => t σ M fun ws M1 => match ws with | [w, u] => D.nx ((σ.set a (some w)).set b (some u)) M1 | _ => False
theorem s_par (F : Fm g i k Y) (a b : Nat) {x y : Str} {ea eb : Expr} {t : TAd} {px py pt : Pos} {kt k2 pt2} {pos : Pos} (ha : QA Y [ea, eb] t) (hi : i.N[a]? = some x := by rfl) (hj : i.N[b]? = some y := by rfl) (la : i.loc.contains a = true := by rfl) (lb : i.loc.contains b = true := by rfl) (hab : a ≠ b := by decide)
    (hw' : ∀ env : Env, swappedStores [.Tuple [.Name x px, .Name y py] kt pt] (.Tuple [ea, eb] k2 pt2) { env with scope := i.sc } = pure (some [x, y]) := by intro; rfl)
    (hs : swapsWithSole [.Tuple [.Name x px, .Name y py] kt pt] (.Tuple [ea, eb] k2 pt2) pos.line Y.X.env = pure false := by rfl) (hc : i.hot = false := by rfl) :
    QS Y (.Assign [.Tuple [.Name x px, .Name y py] kt pt] (.Tuple [ea, eb] k2 pt2) pos) (tPr a b t) := by
  have hw : swappedStores [.Tuple [.Name x px, .Name y py] kt pt] (.Tuple [ea, eb] k2 pt2) Y.X.env = pure (some [x, y]) := by
    have e : Y.X.env = { Y.X.env with scope := i.sc } := by rw [← F.hsc]
    rw [e]
    exact hw' _
  refine ⟨fun s H σ M D S h => semS_of (ps_par (i := a) (j := b) (F.calm hc) (by rw [F.N]; exact F.nd) (by rw [F.N]; exact hi) (by rw [F.N]; exact hj) hab (F.loc a x la hi) (F.loc b y lb hj) pa_sem hw hs) (ha.then_ S h fun vs H1 ws M1 e d r q => ?_)⟩
  split at q
  · obtain ⟨v, u, rfl, r1, r2⟩ := r.two
    exact ⟨v, u, rfl, _, M1, e, ((S.go e d).set r1 a).set r2 b, q⟩
  · exact q.elim
def tDrp (t : TEd) : TSd := fun D σ M => t σ M fun _ M1 => D.nx σ M1
theorem s_expr {e : Expr} {t : TEd} {pos : Pos} (he : QE Y e t) (hs : swapsWith e none pos.line Y.X.env = pure false := by rfl) : QS Y (.Expr e pos) (tDrp t) :=
  ⟨fun s H σ M D S h => semS_of (ps_expr pe_sem hs) (he.then_ S h fun v H1 w M1 e d r q => ⟨σ, M1, e, S.go e d, q⟩)⟩
theorem s_pass {pos : Pos} : QS Y (.Pass pos) tNxt := ⟨fun _ _ σ M _ S h => semS_of ps_pass ⟨σ, M, .refl _ _, S, h⟩⟩
theorem s_doc {x j pos pos'} : QS Y (.Expr (.Constant (.str x) j pos) pos') tNxt := ⟨fun _ _ σ M _ S h => semS_of ps_doc ⟨σ, M, .refl _ _, S, h⟩⟩
def tBrk : TSd := fun D σ M => D.bk σ M
def tCnt : TSd := fun D σ M => D.ct σ M
theorem s_brk {pos : Pos} : QS Y (.Break pos) tBrk := ⟨fun _ _ σ M _ S h => semS_of ps_break ⟨σ, M, .refl _ _, S, h⟩⟩
theorem s_cnt {pos : Pos} : QS Y (.Continue pos) tCnt := ⟨fun _ _ σ M _ S h => semS_of ps_continue ⟨σ, M, .refl _ _, S, h⟩⟩
/-- o[i] = v, o a list that may change -/
def gSubD (to ti : TEd) : TGd := fun w σ M Q => to σ M fun o M1 => ti σ M1 fun j M2 => match o, j with
  | .ref p, .d (.int n) => ∃ ws, M2 p = some (.lst ws) ∧ ∃ m, ixN ws.length n = some m ∧ Q σ (mset M2 p (.lst (ws.set m w)))
  | _, _ => False
theorem set_paired {α β : Type} {R : α → β → Prop} {a : α} {b : β} (r : R a b) : ∀ {xs : List α} {ys : List β} (n : Nat), Paired R xs ys → Paired R (xs.set n a) (ys.set n b)
  | _, _, _, .nil => .nil
  | _, _, 0, .cons _ t => .cons r t
  | _, _, n + 1, .cons q t => .cons q (set_paired r n t)
theorem g_sub {o j : Expr} {to ti : TEd} {pos : Pos} (ho : QE Y o to) (hi : QE Y j ti)
    (ha : ∀ v, assign (.Subscript o j pos) Y.X.env v = (do
      let ov ← holding [v] (eval o Y.X.env)
      let iv ← holding [v, ov] (eval j Y.X.env)
      standAt pos
      holding [v, ov, iv] (setItem ov iv v)
      release [v, ov, iv] []) := by intro _; rfl) : QG Y (.Subscript o j pos) (gSubD to ti) := by
  refine ⟨fun s H σ M v w Q S r h => semG_of (pg_sub pe_sem pe_sem set_list ha) (ho.then_ S h fun vo H1 wo M1 e d r1 q => hi.then_ (S.go e d) q fun vi H2 wi M2 e2 d2 r2 q2 => ?_)⟩
  split at q2
  · rename_i p n
    obtain ⟨ws, hm, m, hx, q⟩ := q2
    obtain rfl := (show vo = _ from r1)
    obtain ⟨xs, k1, k2⟩ := d2 _ _ hm
    have hl : xs.length = ws.length := Paired.length k2
    have nn : M2 p ≠ none := by rw [hm]; exact fun z => by cases z
    have rw' := r.ext (e.trans e2)
    have X : Ext H2 M2 (upd H2 p (.lst (xs.set m v))) (mset M2 p (.lst (ws.set m w))) := ext_mut (.inl nn)
    have dd : Dok Y.X.K (upd H2 p (.lst (xs.set m v))) (mset M2 p (.lst (ws.set m w))) := dok_mut (u := .lst (ws.set m w)) d2 (.inl nn) fun e => ⟨_, upd_same, WvA.ext e (set_paired rw' m k2)⟩
    exact ⟨p, xs, n, m, rfl, r2.int, k1, by rw [hl]; exact hx, σ, _, (e.trans e2).trans X, S.go ((e.trans e2).trans X) dd, q⟩
  · exact q2.elim

/-! ### loops -/
def tForD (ti : TId) (gt : TGd) (tb : TSd) : TSd := fun D σ M => ti σ M fun ws kc M1 => ∃ I : Nat → SD → MH → Prop, I 0 σ M1 ∧ (∀ j σ2 M2, I j σ2 M2 → kc M2) ∧
  (∀ j w σ2 M2, ws[j]? = some w → I j σ2 M2 → gt w σ2 M2 fun σ3 M3 => tb { D with nx := I (j + 1), ct := I (j + 1), bk := D.nx } σ3 M3) ∧ (∀ σ2 M2, I ws.length σ2 M2 → D.nx σ2 M2)
theorem s_for (F : Fm g i k Y) {tg iter : Expr} {body : List Stmt} {ti : TId} {gt : TGd} {tb : TSd} {pos : Pos} (hi : QI Y tg iter ti) (hg : QG Y tg gt) (hb : QSs Y body tb) (hs : ∀ x, foldedSetIterable iter Y.X.env x = pure x := by intro _; rfl) (hc : i.hot = false := by rfl) : QS Y (.For tg iter body [] pos) (tForD ti gt tb) := by
  refine ⟨fun s H σ M D S h => semS_of (ps_for F.po (F.calm hc) pi_sem pg_sem pss_sem hs) ?_⟩
  have z := hi.run s H σ M _ S h
  intro pins1 sh1 I1
  refine thn (z pins1 sh1 I1) fun v s1 hv => thn hv fun it s2 ⟨ad, fp, tn, J, H1, e1, e2, e3, e4, e5, ws, kc, M1, e, d, jl, I, i0, ikc, step, done⟩ => ?_
  refine ⟨ad, fp, tn, J, H1, e1, e2, e3, e4, e5, fun j m s' H' => m = ws.length - j ∧ j ≤ ws.length ∧ ∃ σ' M', Ext H1 M1 H' M' ∧ Std Y s' H' σ' M' ∧ I j σ' M', ⟨ws.length, by simp, Nat.zero_le _, σ, M1, .refl _ _, S.go e d, i0⟩, ?_⟩
  rintro j m s3 H3 ⟨rfl, hj, σ3, M3, x3, S3, q3⟩
  obtain ⟨hgo, hstop⟩ := jl H3 M3 x3 S3.d (ikc _ _ _ q3)
  by_cases hlt : j < ws.length
  · obtain ⟨hg1, hg2⟩ := hgo j ws[j] (by simp [hlt])
    refine .inr ⟨hg1, upS Y H3 M3 (fun σ' M' => I (j + 1) σ' M'), fun s4 H4 ⟨σ4, M4, x4, S4, q4⟩ => ⟨ws.length - (j + 1), by omega, rfl, hlt, σ4, M4, x3.trans x4, S4, q4⟩, fun x H4 hy => ?_⟩
    obtain ⟨x4, d4, r4⟩ := hg2 x H4 hy
    have q5 := step j ws[j] σ3 M3 (by simp [hlt]) q3
    refine semG_mono (hg.run s3 H4 σ3 M3 x _ _ (S3.go x4 d4) r4 q5) fun s5 H5 ⟨σ5, M5, x5, S5, q6⟩ => ?_
    have z6 := hb.run s5 H5 σ5 M5 _ S5 q6
    exact semSs_mono z6 (fun _ _ z => z.trans (x4.trans x5)) (fun _ _ z => z.trans (((e.trans x3).trans x4).trans x5)) (fun _ _ z => z.trans (((e.trans x3).trans x4).trans x5)) (fun _ _ z => z.trans (x4.trans x5))
  · have hj' : j = ws.length := by omega
    subst hj'
    exact .inl ⟨hstop, σ3, M3, e.trans x3, S3, done _ _ q3⟩
def tWhl (c : TTd) (tb : TSd) : TSd := fun D σ M => ∃ I : Nat → SD → MH → Prop, (∃ m, I m σ M) ∧ ∀ m σ M, I m σ M →
  c σ M fun b M1 => if b = true then tb { D with nx := fun σ' M' => ∃ m', m' < m ∧ I m' σ' M', ct := fun σ' M' => ∃ m', m' < m ∧ I m' σ' M', bk := D.nx } σ M1 else D.nx σ M1
theorem s_while (F : Fm g i k Y) {c : Expr} {body : List Stmt} {tc : TTd} {tb : TSd} {pos : Pos} (hc : QT Y c tc) (hb : QSs Y body tb) : QS Y (.While c body [] pos) (tWhl tc tb) := by
  refine ⟨fun s H σ M D S h => semS_of (ps_while F.po pt_sem pss_sem) ?_⟩
  obtain ⟨I, ⟨m0, i0⟩, step⟩ := h
  refine ⟨fun m s' H' => ∃ σ' M', Ext H M H' M' ∧ Std Y s' H' σ' M' ∧ I m σ' M', ⟨m0, σ, M, .refl _ _, S, i0⟩, fun m s1 H1 ⟨σ1, M1, e1, S1, q1⟩ => ?_⟩
  refine hc.then_ S1 (step m σ1 M1 q1) fun b H2 M2 e2 d2 q2 => ?_
  cases b with
  | true =>
    refine iteT ⟨upS Y H2 M2 (fun σ' M' => ∃ m', m' < m ∧ I m' σ' M'), fun s3 H3 ⟨σ3, M3, e3, S3, m', hm, q3⟩ => ⟨m', hm, σ3, M3, (e1.trans e2).trans e3, S3, q3⟩, ?_⟩
    have z := hb.run s1 H2 σ1 M2 _ (S1.go e2 d2) (show tb _ σ1 M2 from by simpa using q2)
    exact semSs_mono z (fun _ _ z => z) (fun _ _ z => z.trans (e1.trans e2)) (fun _ _ z => z.trans (e1.trans e2)) (fun _ _ z => z)
  | false => exact iteF ⟨σ1, M2, e1.trans e2, S1.go e2 d2, by simpa using q2⟩
end
end Dl
set_option Elab.async false
set_option linter.all false
set_option maxRecDepth 100000
namespace Dl
open PySem PySem.Spec PyProof.Rows L2

/-! ### defs -/
abbrev SpD := List W → MH → (W → MH → Prop) → XD → Prop
def lift (K : PySem.W.Frag) (sp : SpD) : Sp := fun vs H Q E => ∃ ws M Qd Ed, Dok K H M ∧ WvA K H M vs ws ∧ sp ws M Qd Ed ∧
  (∀ v H' w M', Ext H M H' M' → Dok K H' M' → Wv K H' M' v w → Qd w M' → Q v H') ∧ (∀ cls d H' fs M', Ext H M H' M' → Dok K H' M' → XFs K H' M' d fs → Ed cls fs M' → E cls d H')
structure FnG (g : Gc) (k : Nat) (f : Addr) (fd : FuncData) (ps : List Str) (sp : SpD) (hot : Bool := false) : Prop where
  len : ∀ ws M Q E, sp ws M Q E → ws.length = ps.length
  run : ∀ (A : Around) (outer : List Env) (s : Shared) (H : Hp) (args : Args) (us : List Value) (vs : List V) (Q : VK) (E : XK), A.guards = some [] → (hot = false → A.handled = none) → RmH k A → Env0 g.P g.w g.K g.mg g.base A outer s H →
    BindsTo s fd args (ps.zip us) → Vals vs us → lift g.K sp vs H Q E → codeAny (model g.P g.w) A (.call (.ref f) args) (CR (L2.CX g.P g.w) outer g.P g.w H s Q E) s
theorem FnG.mono {g : Gc} {j k : Nat} {f : Addr} {fd : FuncData} {ps : List Str} {sp : SpD} {hot : Bool} (F : FnG g j f fd ps sp hot) (h : j ≤ k) : FnG g k f fd ps sp hot :=
  ⟨F.len, fun A outer s H args us vs Q E hg hh hr => F.run A outer s H args us vs Q E hg hh (hr.mono h)⟩
theorem FnG.imp {g : Gc} {k : Nat} {f : Addr} {fd : FuncData} {ps : List Str} {sp sp' : SpD} {hot : Bool} (F : FnG g k f fd ps sp hot) (h : ∀ ws M Q E, sp' ws M Q E → sp ws M Q E) : FnG g k f fd ps sp' hot :=
  ⟨fun ws M Q E q => F.len ws M Q E (h _ _ _ _ q), fun A outer s H args us vs Q E hg hh hr he hb hv ⟨ws, M, Qd, Ed, h1, h2, h3, h4⟩ => F.run A outer s H args us vs Q E hg hh hr he hb hv ⟨ws, M, Qd, Ed, h1, h2, h _ _ _ _ h3, h4⟩⟩
def startD (N : List Str) (ws : List W) : SD := ws.map some ++ List.replicate (N.length - ws.length) none

/-- what the scope's look gives -/
theorem vis_of {N : List Str} {sc : Scope} {l : List Nat} (h : visOk N sc l = true) : ∀ j x, l.contains j = true → N[j]? = some x → Vis sc x ∧ (x == ("__debug__" : Str)) = false ∧ (x == ("__classdict__" : Str)) = false := by
  intro j x hj hx
  unfold visOk at h
  have z := List.all_eq_true.mp h j (by simpa using hj)
  rw [hx] at z
  simp only [Bool.and_eq_true, beq_iff_eq] at z
  obtain ⟨⟨z1, z2⟩, z3⟩ := z
  refine ⟨?_, by simpa using z2, by simpa using z3⟩
  split at z1
  · exact .inl (by assumption)
  · exact .inr (.inl (by assumption))
  · exact .inr (.inr (by assumption))
  · cases z1
theorem kind_of {N : List Str} {sc : Scope} {kd : NameKind} {l : List Nat} (h : kindOk N sc kd l = true) : ∀ j x, l.contains j = true → N[j]? = some x → sc.names.lookup x = some kd := by
  intro j x hj hx
  unfold kindOk at h
  have z := List.all_eq_true.mp h j (by simpa using hj)
  rw [hx] at z
  simpa using z
theorem glo_of {sc : Scope} {l : List Str} (h : gloOk sc l = true) : ∀ (j : Nat) x, l[j]? = some x → sc.names.lookup x = some .globalImplicit ∧ (x == ("__debug__" : Str)) = false ∧ x ≠ "__name__" := by
  intro j x hx
  unfold gloOk at h
  have z := List.all_eq_true.mp h x (List.mem_of_getElem? hx)
  simp only [Bool.and_eq_true, decide_eq_true_eq, beq_iff_eq] at z
  exact ⟨z.1.1, by simpa using z.1.2, z.2⟩
/-- all looks at a def's scope -/
structure ScOk (i : Si) (sc : Scope) : Prop where
  e : i.sc = sc
  v : visOk i.N sc i.vis = true
  l : kindOk i.N sc .local i.loc = true
  c : kindOk i.N sc .cell i.cel = true
  g : gloOk sc i.gls = true

/-- a context entered at this state -/
structure CtxAt (Y : Dx) (outer : List Env) (s : Shared) (H : Hp) (M : MH) : Prop where
  o : Y.X.outer = outer
  x : Y.X.ex = []
  h : Y.X.H_0 = H
  s : Y.X.s_0 = s
  e : Ext H M Y.H0 Y.M0
/-- a def's call, told of the very state -/
theorem fng_at {g : Gc} {i : Si} {k : Nat} {x qual : Str} {st : Stmt} {f : Addr} {fd : FuncData} {ps : List Str} (F : Fun g.K x qual st f fd) (Sc : FnScope i.N ps (defScope st)) (ok : ScOk i (defScope st)) (hsy : SysOk g.base)
    {A : Around} {outer : List Env} {s : Shared} {H : Hp} {args : Args} {us : List Value} {vs : List V} {Q : VK} {E : XK} (hgd : A.guards = some []) (hh : i.hot = false → A.handled = none) (hr : RmH (k + 1) A) (e0 : Env0 g.P g.w g.K g.mg g.base A outer s H) (hb : BindsTo s fd args (ps.zip us)) (rv : Vals vs us)
    {ws : List W} {M : MH} {Qd : W → MH → Prop} {Ed : XD} (hD : Dok g.K H M) (hw : WvA g.K H M vs ws) (lw : ws.length = ps.length)
    (kQ : ∀ v H' w M', Ext H M H' M' → Dok g.K H' M' → Wv g.K H' M' v w → Qd w M' → Q v H')
    (kE : ∀ cls d H' fs M', Ext H M H' M' → Dok g.K H' M' → XFs g.K H' M' d fs → Ed cls fs M' → E cls d H')
    (body : ∀ Y : Dx, Fm g i k Y → Y.wd = (fun cls fs _ M' => Ed cls fs M') → CtxAt Y outer s H M → Y.X.env.code = fd.code → Y.X.env.qual = qual ++ ".<locals>." → ∃ t, QSs Y (defBody st) t ∧ t { nx := fun _ M' => Qd (.d .none) M', rt := Qd } (startD i.N ws) M) :
    codeAny (model g.P g.w) A (.call (.ref f) args) (CR (L2.CX g.P g.w) outer g.P g.w H s Q E) s := by
  obtain ⟨oc, od, kV, doc, pm, an, cdv, ct, osl, rfl, lk, hcd⟩ := F.ex
  have lv : vs.length = ps.length := (Paired.length hw).trans lw
  have KX : g.K.In s.heap := e0.mod.kin.keeps fun b o z => (e0.bs b o z).1
  have nolim : s.heap.NoLimit := e0.mod.nolimit.keeps fun b o z => (e0.bs b o z).1
  have kinds : ∀ y ∈ ps.zip us, (defScope st).names.lookup y.1 = some .local ∨ ((defScope st).names.lookup y.1 = some .cell ∧ ((cellsFrom (s.heap.objs.size + 1) (defScope st).names []).lookup y.1).isSome = true) := by
    rintro ⟨n, u⟩ hy
    have hn := (List.of_mem_zip hy).1
    rcases Sc.par n hn with z | z
    · exact Or.inl z
    · exact Or.inr ⟨z, PySem.W.cellsFrom_some _ _ _ (Or.inl z)⟩
  refine codeAny_call_function hr.depth (KX _ _ lk) rfl Sc.co Sc.gen rfl (PySem.W.codeRec_of KX hcd) ?_
  refine hb _ _ _ _ ?_
  refine wpAny_newFunctionEnv_cells Sc.kind kinds fun env henv s1 inC => ?_
  subst henv
  refine ⟨nolim.keeps inC.toInCall.keep, ?_⟩
  refine codeAny_func ?_
  obtain ⟨X, hX⟩ : ∃ X : Cx, X = { cxOf (L2.CX g.P g.w) g.P g.w g.K g.mg g.base i.N qual (defScope st) f cdv A outer s H E with calm := !i.hot } := ⟨_, rfl⟩
  have I : Inv X [] (start i.N vs) H s1 := by
    subst hX
    have e1 : Env0 g.P g.w g.K g.mg g.base { A with handled := none } outer s H := ⟨e0.frames, e0.mod, e0.bs, e0.bsz, e0.funs, e0.frf, e0.hok, e0.bare⟩
    have J := inv_start (CX := L2.CX g.P g.w) (E := E) Sc (A := { A with handled := none }) rfl e1 lv rv inC
    have o := J.ok
    exact ⟨⟨o.mod, o.kind, o.glob, o.blt, o.above, o.inj, o.has, o.cab, (fun z => hh (by simpa using z)), Around.frames_deeper e0.frames, o.stk, o.exf, o.bs, o.bsz, o.noex, o.exfs, o.funs, o.frf⟩, J.os, J.bare, J.base, J.loc, J.cell, J.free, J.freeC, J.pin, J.hok, J.len⟩
  obtain ⟨Y, hY⟩ : ∃ Y : Dx, Y = { X := X, H0 := H, M0 := M, wd := fun cls fs _ M' => Ed cls fs M' } := ⟨_, rfl⟩
  have hXK : X.K = g.K := by subst hX; rfl
  have hYX : Y.X = X := by rw [hY]
  have Fmm : Fm g i k Y := by
    subst hY
    subst hX
    refine ⟨rfl, rfl, rfl, rfl, rfl, rfl, ok.e.symm, Sc.nd, (fun z => by show (!i.hot) = true; rw [z]; rfl), hh, hgd, hr.deeper _, (fun _ => ⟨rfl, rfl⟩), vis_of ok.v, kind_of ok.l, fun j x h1 h2 => ⟨kind_of ok.c j x h1 h2, rfl⟩, glo_of ok.g, hsy, ?_, ?_⟩
    · refine (takes_of (E := E) rfl rfl rfl rfl).imp fun cls d s' H' ⟨σ', M', fs, S', xf, w⟩ => ?_
      exact kE cls d H' fs M' S'.e S'.d xf w
    · exact passes_of rfl
  obtain ⟨t, ht, hq⟩ := body Y Fmm (by rw [hY]) (by subst hY; subst hX; exact ⟨rfl, rfl, rfl, rfl, .refl _ _⟩) (by subst hY; subst hX; rfl) (by subst hY; subst hX; rfl)
  have hD' : Dok X.K H M := by rw [hXK]; exact hD
  have hw' : WvA X.K H M vs ws := by rw [hXK]; exact hw
  have St0 : Std Y (start i.N vs) H (startD i.N ws) M := by
    subst hY
    refine ⟨.refl _ _, hD', ?_⟩
    unfold L2.start startD
    rw [Paired.length hw]
    exact slots_start _ hw'
  have run := ht.run _ _ _ _ _ St0 hq [] s1 (by rw [hYX]; exact I)
  rw [hYX] at run
  have fin : ∀ {σ' : L2.St} {H' : Hp} {v : V} {u : Value} {s' : Shared}, Inv X [] σ' H' s' → RelV v u → up Y H M Qd v H' → CE outer g.P g.w H s Q u s' := by
    intro σ' H' v u s' J rv ⟨w, M', e1, d1, r1, q1⟩
    rw [hYX, hXK] at d1 r1
    have q2 := kQ v H' w M' e1 d1 r1 q1
    subst hX
    exact ⟨v, H', J.os, J.bare, J.base, J.hok, rv, q2⟩
  subst hX
  refine wpAny_mono run (fun fl s' hs => ?_) fun e s' hs => hs
  cases fl with
  | next =>
    obtain ⟨σ', H', J, σd, M', e1, S1, q⟩ := hs
    exact fin (v := V.non) (u := Value.none) J rfl ⟨_, M', e1, S1.d, wNone, q⟩
  | ret u =>
    obtain ⟨v, σ', H', J, rv, q⟩ := hs
    exact fin J rv q
  | brk => obtain ⟨_, _, _, _, _, _, _, q⟩ := hs; exact q.elim
  | cont => obtain ⟨_, _, _, _, _, _, _, q⟩ := hs; exact q.elim

theorem fng_of {g : Gc} {i : Si} {k : Nat} {x qual : Str} {st : Stmt} {f : Addr} {fd : FuncData} {ps : List Str} {sp : SpD} (F : Fun g.K x qual st f fd) (Sc : FnScope i.N ps (defScope st)) (ok : ScOk i (defScope st)) (hsy : SysOk g.base)
    (len : ∀ ws M Q E, sp ws M Q E → ws.length = ps.length)
    (body : ∀ (Y : Dx) (ws : List W) (M : MH) (Q : W → MH → Prop) (E : XD), Fm g i k Y → Y.wd = (fun cls fs _ M' => E cls fs M') → sp ws M Q E → ∃ t, QSs Y (defBody st) t ∧ t { nx := fun _ M' => Q (.d .none) M', rt := Q } (startD i.N ws) M) :
    FnG g (k + 1) f fd ps sp i.hot := by
  refine ⟨len, fun A outer s H args us vs Q E hgd hh hr e0 hb rv hlift => ?_⟩
  obtain ⟨ws, M, Qd, Ed, hD, hw, hsp, kQ, kE⟩ := hlift
  exact fng_at F Sc ok hsy hgd hh hr e0 hb rv hD hw (len _ _ _ _ hsp) kQ kE fun Y F' hw' _ _ _ => body Y ws M Qd Ed F' hw' hsp
/-- a def of the module, for its callers -/
structure Df (g : Gc) (k : Nat) (x : Str) (ps : List Str) (sp : SpD) (hot : Bool := false) : Prop where
  ex : ∃ f fd, FnG g k f fd ps sp hot ∧ g.mg x = some (.ref f) ∧ PySem.W.keepIn g.K (.ref f) = true ∧ Binds g.K fd ps []
theorem Df.imp {g : Gc} {k : Nat} {x : Str} {ps : List Str} {sp sp' : SpD} {hot : Bool} (D : Df g k x ps sp hot) (h : ∀ ws M Q E, sp' ws M Q E → sp ws M Q E) : Df g k x ps sp' hot := by
  obtain ⟨f, fd, F, z⟩ := D.ex
  exact ⟨f, fd, F.imp h, z⟩

section
variable {g : Gc} {i : Si} {k : Nat} {Y : Dx}
def tFn (sp : SpD) (wd : Value → XF → SD → MH → Prop) (t : TAd) : TEd := fun σ M Q => t σ M fun ws M1 => sp ws M1 Q (fun cls fs M' => wd cls fs σ M')
theorem fn_run (F : Fm g i k Y) {j : Nat} {f : Addr} {fd : FuncData} {ps : List Str} {sp : SpD} {hot : Bool} (D : FnG g j f fd ps sp hot) (hh : hot = true ∨ i.hot = false) (hj : j ≤ k) (hb : Binds g.K fd ps []) {s H σ M vs ws Q} (S : Std Y s H σ M) (r : WvA Y.X.K H M vs ws) (h : sp ws M Q (fun cls fs M' => Y.wd cls fs σ M')) {pins : List (Addr × Obj)} {sh : Shared} {us : List Value}
    (I : Inv Y.X pins s H sh) (ru : Vals vs us) : wpAny (model Y.X.prog Y.X.w) Y.X.A (call (.ref f) us) (EP Y.X pins s (up Y H M Q)) Y.X.xe sh := by
  have lw := D.len _ _ _ _ h
  have lu : us.length = ps.length := by rw [← ru.length, Paired.length r, lw]
  have kin : g.K.In sh.heap := by rw [← F.hK]; exact I.kIn
  have bd := hb sh us kin (by rw [List.append_nil]; exact lu)
  rw [List.append_nil] at bd
  have e0 : Env0 g.P g.w g.K g.mg g.base Y.X.A Y.X.stack sh H := by rw [← F.hP, ← F.hw, ← F.hK, ← F.hmg, ← F.hb]; exact I.env0
  have hl : lift g.K sp vs H (up Y H M Q) (fun cls d H' => upX Y Y.wd cls d s H') := by
    refine ⟨ws, M, Q, _, by rw [← F.hK]; exact S.d, by rw [← F.hK]; exact r, h, fun v H' w M' e d r q => ⟨w, M', e, by rw [F.hK]; exact d, by rw [F.hK]; exact r, q⟩, fun cls d H' fs M' e dk xf w => ?_⟩
    exact ⟨σ, M', fs, S.go e (by rw [F.hK]; exact dk), by rw [F.hK]; exact xf, w⟩
  have z := D.run Y.X.A Y.X.stack sh H ⟨us, []⟩ us vs _ _ F.gd (fun z => by rcases hh with h | h; (rw [h] at z; cases z); exact F.hd h) (F.room.mono hj) e0 bd ru hl
  rw [F.hP, F.hw]
  refine wpAny_call (codeAny_mono z fun res s' hq => ?_)
  rw [← F.hP, ← F.hw] at hq
  cases res with
  | error e => exact passAt F.tk s pins H sh e s' I hq
  | ok fl =>
    cases fl with
    | ret u => exact I.after hq
    | next => exact (show False from hq).elim
    | brk => exact (show False from hq).elim
    | cont => exact (show False from hq).elim
theorem q_call (F : Fm g i k Y) (j : Nat) {m : Nat} {x : Str} {ps : List Str} {sp : SpD} {e : Expr} {es : List Expr} {t : TAd} {p pos : Pos} {hot : Bool} (D : Df g m x ps sp hot) (ha : QA Y (e :: es) t) (hm : m ≤ k := by first | exact Nat.le_refl _ | decide | omega) (hj : i.gls[j]? = some x := by rfl) (hh : hot = true ∨ i.hot = false := by first | exact .inr rfl | exact .inl rfl)
    (he : starEach (e :: es) Y.X.env = (false, eval e Y.X.env) :: starEach es Y.X.env := by rfl) (hpl : (backTo pos (starEach es Y.X.env)).any (·.1) = false := by rfl) : QE Y (.Call (.Name x p) (e :: es) [] pos) (tFn sp Y.wd t) := by
  obtain ⟨h1, h2, h3⟩ := F.glo j x hj
  obtain ⟨f, fd, FD, mgf, kp, hb⟩ := D.ex
  refine ⟨fun s H σ M Q S h pins sh I => ?_⟩
  refine wpAny_Call_Name_kw (ld_glob I h1 (by rw [F.hmg]; exact mgf) ?_ h2)
  refine PySem.W.callWith_K (h₀ := Y.X.base) I.ok.mod.kin (by rw [F.hK]; exact kp) (thn ((ha.run s H σ M _ S h) pos pins sh I) fun us s1 ⟨vs, H1, I1, r, ws, M1, e1, d1, r1, q1⟩ => ⟨I1.kIn, ?_⟩) he hpl
  exact thn (fn_run F FD hh hm hb (S.go e1 d1) r1 q1 I1 r) fun _ _ ⟨v, H2, I2, r2, z⟩ => ⟨v, H2, I2, r2, z.trans e1⟩
/-- nothing is raised -/
def noWd : Value → XF → SD → MH → Prop := fun _ _ _ _ => False
theorem q_callW {wd : Value → XF → SD → MH → Prop} (hw : Y.wd = wd) (F : Fm g i k Y) (j : Nat) {m : Nat} {x : Str} {ps : List Str} {sp : SpD} {e : Expr} {es : List Expr} {t : TAd} {p pos : Pos} {hot : Bool} (D : Df g m x ps sp hot) (ha : QA Y (e :: es) t) (hm : m ≤ k := by first | exact Nat.le_refl _ | decide | omega) (hj : i.gls[j]? = some x := by rfl) (hh : hot = true ∨ i.hot = false := by first | exact .inr rfl | exact .inl rfl)
    (he : starEach (e :: es) Y.X.env = (false, eval e Y.X.env) :: starEach es Y.X.env := by rfl) (hpl : (backTo pos (starEach es Y.X.env)).any (·.1) = false := by rfl) : QE Y (.Call (.Name x p) (e :: es) [] pos) (tFn sp wd t) := by
  subst hw
  exact q_call F j D ha hm hj hh he hpl
theorem q_call0 (F : Fm g i k Y) (j : Nat) {m : Nat} {x : Str} {ps : List Str} {sp : SpD} {p pos : Pos} {hot : Bool} (D : Df g m x ps sp hot) (hm : m ≤ k := by first | exact Nat.le_refl _ | decide | omega) (hj : i.gls[j]? = some x := by rfl) (hh : hot = true ∨ i.hot = false := by first | exact .inr rfl | exact .inl rfl) : QE Y (.Call (.Name x p) [] [] pos) (tFn sp Y.wd tNilA) := by
  obtain ⟨h1, h2, h3⟩ := F.glo j x hj
  obtain ⟨f, fd, FD, mgf, kp, hb⟩ := D.ex
  refine ⟨fun s H σ M Q S h pins sh I => ?_⟩
  refine wpAny_Call_Name_kw (ld_glob I h1 (by rw [F.hmg]; exact mgf) ?_ h2)
  exact PySem.W.callWith_K0 I.kIn (by rw [F.hK]; exact kp) (fn_run F FD hh hm hb S .nil h I .nil)
end
end Dl
set_option Elab.async false
set_option linter.all false
set_option maxRecDepth 100000
namespace Dl
open PySem PySem.Spec PyProof.Rows L2

/-! ### list comprehensions -/
inductive Tg where
  | one (j : Nat)
  | many (js : List Nat)
def Tg.js : Tg → List Nat
  | .one j => [j]
  | .many js => js
def setN : SD → List Nat → List W → SD
  | σ, j :: js, w :: ws => setN (σ.set j (some w)) js ws
  | σ, _, _ => σ
def tgQ (T : Tg) (w : W) (σ : SD) (Q : SD → Prop) : Prop := match T with
  | .one j => Q (σ.set j (some w))
  | .many js => match w with
    | .d (.tuple ds) => ds.length = js.length ∧ Q (setN σ js (ds.map W.d))
    | .pr ds => ds.length = js.length ∧ Q (setN σ js (ds.map W.d))
    | _ => False
def gNames : List Nat → TGs
  | [] => gNil
  | j :: js => gCons (gName j) (gNames js)
def gV (K : PySem.W.Frag) : Tg → TG
  | .one j => gName j
  | .many js => gTup K js.length (gNames js)
theorem wipe_get (s : L2.St) : ∀ (vs : List Nat) (m : Nat), (L2.wipe s vs)[m]? = if m ∈ vs ∧ m < s.length then some none else s[m]?
  | [], m => by simp [L2.wipe]
  | v :: vs, m => by
    unfold L2.wipe
    have hl := L2.wipe_length s vs
    rw [List.getElem?_set]
    by_cases hv : v = m
    · subst hv
      by_cases hm : v < s.length
      · simp [hl, hm]
      · simp [hl, hm]
    · rw [if_neg hv, wipe_get s vs m]
      have : (m ∈ v :: vs) ↔ m ∈ vs := by
        simp only [List.mem_cons]
        exact ⟨fun z => z.resolve_left (fun e => hv e.symm), .inr⟩
      simp [this]
theorem wipe_wipe_set (s : L2.St) (vs : List Nat) {j : Nat} (h : j ∈ vs) (x : Option V) : L2.wipe (s.set j x) vs = L2.wipe s vs := by
  apply List.ext_getElem?
  intro m
  rw [wipe_get, wipe_get, List.length_set, List.getElem?_set]
  by_cases hm : m ∈ vs ∧ m < s.length
  · rw [if_pos hm, if_pos hm]
  · rw [if_neg hm, if_neg hm]
    by_cases e : j = m
    · subst e
      rw [if_pos rfl]
      have : ¬ j < s.length := fun z => hm ⟨h, z⟩
      simp [this]
    · rw [if_neg e]
theorem wipe_idem (s : L2.St) (vs : List Nat) : L2.wipe (L2.wipe s vs) vs = L2.wipe s vs := by
  apply List.ext_getElem?
  intro m
  rw [wipe_get, wipe_get, L2.wipe_length]
  by_cases hm : m ∈ vs ∧ m < s.length
  · rw [if_pos hm, if_pos hm]
  · rw [if_neg hm, if_neg hm]
structure QTs (Y : Dx) (ifs : List Expr) (t : TTd) : Prop where
  run : ∀ s H σ M Q, Std Y s H σ M → t σ M Q → ∀ pins sh, Inv Y.X pins s H sh →
    wpAny (model Y.X.prog Y.X.w) Y.X.A (forIn ifs true fun c r => if r = true then do let ok ← isTrue c Y.X.env (eval c Y.X.env); pure (ForInStep.yield ok) else pure (ForInStep.yield r)) (TP Y.X pins s (upB Y H M Q)) Y.X.xe sh
def tAll : TTd := fun _ M Q => Q true M
theorem ts_nil {Y : Dx} : QTs Y [] tAll := ⟨fun s H σ M Q S h pins sh I => pts_nil.run pins sh s H _ I ⟨M, .refl _ _, S.d, h⟩⟩
theorem ts_one {Y : Dx} {c : Expr} {t : TTd} (h : QT Y c t) : QTs Y [c] t := ⟨fun s H σ M Q S hq pins sh I => (pts_one pt_sem).run pins sh s H _ I (h.run s H σ M Q S hq)⟩

section
variable {g : Gc} {i : Si} {k : Nat} {Y : Dx}
/-- the block of a comprehension: what it sees of names -/
structure BlOk (i i' : Si) (scope : Scope) (own : List (Str × Nat)) : Prop where
  n : i'.N = i.N
  s : i'.sc = relS scope i.sc
  ok : ScOk i' (relS scope i.sc)
  c : kindOk i'.N scope .cell i'.cel = true
  b : blkC i.N i.sc scope own = true
  h : i'.hot = i.hot
  k : i'.blk = true
theorem Fm.blk (F : Fm g i k Y) {i' : Si} {scope : Scope} {own : List (Str × Nat)} (B : BlOk i i' scope own) (s : Shared) (H : Hp) (C : Addr) (cl : List (Str × Addr)) (fp : List Addr) :
    Fm g i' k { X := Y.X.blk s H scope (compEnvC scope cl C Y.X.env) fp, H0 := Y.H0, M0 := Y.M0, wd := fun _ _ _ _ => False } := by
  have e : (compEnvC scope cl C Y.X.env).scope = relS scope i.sc := by rw [← F.hsc]; rfl
  refine ⟨F.hP, F.hw, F.hK, F.hmg, F.hb, F.N.trans B.n.symm, e.trans B.s.symm, by rw [B.n]; exact F.nd, (fun z => F.calm (B.h ▸ z)), (fun z => F.hd (B.h ▸ z)), F.gd, F.room, (fun z => by rw [B.k] at z; cases z), ?_, ?_, ?_, ?_, F.sy, ?_, PassesOwn.never⟩
  · intro j x h1 h2
    have z := vis_of B.ok.v j x h1 h2
    rw [← e] at z
    exact z
  · intro j x h1 h2
    have z := kind_of B.ok.l j x h1 h2
    rw [← e] at z
    exact z
  · intro j x h1 h2
    have z := kind_of B.ok.c j x h1 h2
    rw [← e] at z
    refine ⟨z, ?_⟩
    have z2 := kind_of B.c j x h1 h2
    show (scope.names.lookup x == some .cell) = true
    rw [z2]
    rfl
  · intro j x h1
    have z := glo_of B.ok.g j x h1
    rw [← e] at z
    exact z
  · rintro u s' ⟨_, _, _, _, _, _, _, _, _, _, _, _, _, _, _, _, _, _, _, _, _, w⟩
    exact (show False from w).elim

/-- what a comprehension's list becomes -/
abbrev Dn := (W → MH → Prop) → Addr → List W → MH → Prop
/-- a datum -/
def dnD : Dn := fun Q D acc M2 => dataQ (fun ds M3 => Q (.d (.list ds)) M3) acc (mdel M2 D)
/-- a list that may change -/
def dnM : Dn := fun Q D _ M2 => Q (.ref D) M2
def DnOk (dn : Dn) : Prop := ∀ (Y : Dx) (Q : W → MH → Prop) (D : Addr) (acc : List W) (H : Hp) (M : MH), Dok Y.X.K H M → M D = some (.lst acc) → dn Q D acc M → up Y H M Q (.ref D) H
theorem dnD_ok : DnOk dnD := by
  intro Y Q D acc H M d hm h
  obtain ⟨ds, hds, qd⟩ := dataQ_get h
  subst hds
  refine ⟨.d (.list ds), mdel M D, ext_less mdel_less, dok_less d mdel_less, ?_, qd⟩
  obtain ⟨xs, hx, rx⟩ := d _ _ hm
  exact Fz.lst ⟨hx, mdel_same⟩ (FzA.ext (ext_less mdel_less) ds xs (FzA.of_wv rx))
theorem dnM_ok : DnOk dnM := fun Y Q D acc H M d hm h => ⟨.ref D, M, .refl _ _, d, rfl, h⟩
def tLcX (dn : Dn) (ti : TId) (T : Tg) (tt : TTd) (te : TEd) (vs : List Nat) : TEd := fun σ M Q => ti σ M fun ws kc M1 => ∀ D, M1 D = none → ∃ I : Nat → List W → MH → Prop, I 0 [] (mset M1 D (.lst [])) ∧
  (∀ j acc M2, I j acc M2 → kc M2 ∧ M2 D = some (.lst acc)) ∧
  (∀ j w acc M2, ws[j]? = some w → I j acc M2 → tgQ T w (wipeD σ vs) fun σ2 => tt σ2 M2 fun b M4 => if b = true then te σ2 M4 fun x M5 => M5 D = some (.lst acc) ∧ acc.length < sizeLine ∧ I (j + 1) (acc ++ [x]) (mset M5 D (.lst (acc ++ [x]))) else I (j + 1) acc M4) ∧
  (∀ acc M2, I ws.length acc M2 → dn Q D acc M2)
def tLcD (ti : TId) (T : Tg) (tt : TTd) (te : TEd) (vs : List Nat) : TEd := fun σ M Q => ti σ M fun ws kc M1 => ∀ D, M1 D = none → ∃ I : Nat → List W → MH → Prop, I 0 [] (mset M1 D (.lst [])) ∧
  (∀ j acc M2, I j acc M2 → kc M2 ∧ M2 D = some (.lst acc)) ∧
  (∀ j w acc M2, ws[j]? = some w → I j acc M2 → tgQ T w (wipeD σ vs) fun σ2 => tt σ2 M2 fun b M4 => if b = true then te σ2 M4 fun x M5 => M5 D = some (.lst acc) ∧ acc.length < sizeLine ∧ I (j + 1) (acc ++ [x]) (mset M5 D (.lst (acc ++ [x]))) else I (j + 1) acc M4) ∧
  (∀ acc M2, I ws.length acc M2 → dataQ (fun ds M3 => Q (.d (.list ds)) M3) acc (mdel M2 D))
def tLcM (ti : TId) (T : Tg) (tt : TTd) (te : TEd) (vs : List Nat) : TEd := fun σ M Q => ti σ M fun ws kc M1 => ∀ D, M1 D = none → ∃ I : Nat → List W → MH → Prop, I 0 [] (mset M1 D (.lst [])) ∧
  (∀ j acc M2, I j acc M2 → kc M2 ∧ M2 D = some (.lst acc)) ∧
  (∀ j w acc M2, ws[j]? = some w → I j acc M2 → tgQ T w (wipeD σ vs) fun σ2 => tt σ2 M2 fun b M4 => if b = true then te σ2 M4 fun x M5 => M5 D = some (.lst acc) ∧ acc.length < sizeLine ∧ I (j + 1) (acc ++ [x]) (mset M5 D (.lst (acc ++ [x]))) else I (j + 1) acc M4) ∧
  (∀ acc M2, I ws.length acc M2 → Q (.ref D) M2)
theorem gNames_run {K : PySem.W.Frag} {H : Hp} {M : MH} (vs : List Nat) {s0 : L2.St} : ∀ (js : List Nat) (xs : List V) (ds : List PyData) (s : L2.St) (σ : SD) (Q : L2.St → Hp → Prop), (∀ j ∈ js, j ∈ vs) → ds.length = js.length → FzA K H M xs ds → Slots K H M s σ → L2.wipe s vs = L2.wipe s0 vs →
    (∀ s', Slots K H M s' (setN σ js (ds.map W.d)) → L2.wipe s' vs = L2.wipe s0 vs → Q s' H) → gNames js xs s H Q
  | [], xs, ds, s, σ, Q, _, hl, ha, hs, hw, k => by
    cases ds with
    | cons _ _ => cases hl
    | nil =>
      cases ha
      exact ⟨rfl, k s hs hw⟩
  | j :: js, xs, ds, s, σ, Q, hj, hl, ha, hs, hw, k => by
    cases ds with
    | nil => cases hl
    | cons d ds =>
      cases ha with
      | cons h1 h2 =>
        refine ⟨_, _, rfl, ?_⟩
        exact gNames_run vs js _ ds _ _ Q (fun m hm => hj m (List.mem_cons_of_mem _ hm)) (by simpa using hl) h2 (Slots.set (w := .d d) h1 j hs) (by rw [wipe_wipe_set _ _ (hj j List.mem_cons_self)]; exact hw) k
theorem lc_l2 {dn : Dn} (hdn : DnOk dn) (F : Fm g i k Y) (i' : Si) (T : Tg) {elt tg iter : Expr} {ifs : List Expr} {scope : Scope} {own : List (Str × Nat)} {ti : TId} {tt : TTd} {te : TEd} (B : BlOk i i' scope own) (hT : ∀ j ∈ T.js, j ∈ own.map (·.2)) (hi : QI Y tg iter ti)
    (hb : ∀ Y' : Dx, Fm g i' k Y' → Y'.wd = noWd → PG Y'.X tg (gV Y'.X.K T) ∧ QTs Y' ifs tt ∧ QE Y' elt te) :
    ∃ (tF : TT) (eF : TE), (∀ (s : Shared) (H : Hp) (C : Addr) (cl : List (Str × Addr)) (fp : List Addr), PG (Y.X.blk s H scope (compEnvC scope cl C Y.X.env) fp) tg (gV Y.X.K T)) ∧ (∀ (s : Shared) (H : Hp) (C : Addr) (cl : List (Str × Addr)) (fp : List Addr), PTs (Y.X.blk s H scope (compEnvC scope cl C Y.X.env) fp) ifs tF) ∧
      (∀ (s : Shared) (H : Hp) (C : Addr) (cl : List (Str × Addr)) (fp : List Addr), PE (Y.X.blk s H scope (compEnvC scope cl C Y.X.env) fp) elt eF) ∧
      ∀ s H σ M Q (R : VK), Std Y s H σ M → tLcX dn ti T tt te (own.map (·.2)) σ M Q → (∀ v H', up Y H M Q v H' → R v H') → tLc (semIt Y.X tg iter) (gV Y.X.K T) tF eF (own.map (·.2)) s H R := by
  have hblk : ∀ (s : Shared) (H : Hp) (C : Addr) (cl : List (Str × Addr)) (fp : List Addr), ∃ Y' : Dx, Y'.X = Y.X.blk s H scope (compEnvC scope cl C Y.X.env) fp ∧ Y'.H0 = Y.H0 ∧ Y'.M0 = Y.M0 ∧ PG Y'.X tg (gV Y'.X.K T) ∧ QTs Y' ifs tt ∧ QE Y' elt te := fun s H C cl fp =>
    ⟨{ X := Y.X.blk s H scope (compEnvC scope cl C Y.X.env) fp, H0 := Y.H0, M0 := Y.M0, wd := fun _ _ _ _ => False }, rfl, rfl, rfl, hb _ (F.blk B s H C cl fp) rfl⟩
  -- what a block's parts come to, whatever the block
  let tF : TT := fun s H Q => ∀ s0 H0 C cl fp pins sh, Inv (Y.X.blk s0 H0 scope (compEnvC scope cl C Y.X.env) fp) pins s H sh →
    wpAny (model Y.X.prog Y.X.w) Y.X.A (forIn ifs true fun c r => if r = true then do let ok ← isTrue c (compEnvC scope cl C Y.X.env) (eval c (compEnvC scope cl C Y.X.env)); pure (ForInStep.yield ok) else pure (ForInStep.yield r)) (TP (Y.X.blk s0 H0 scope (compEnvC scope cl C Y.X.env) fp) pins s Q) (fun _ _ => False) sh
  let eF : TE := fun s H Q => ∀ s0 H0 C cl fp, semE (Y.X.blk s0 H0 scope (compEnvC scope cl C Y.X.env) fp) elt s H Q
  refine ⟨tF, eF, ?_, ?_, ?_, fun s H σ M Q R S h kR => ?_⟩
  · intro s0 H0 C cl fp
    obtain ⟨Y', hX, _, _, h1, _⟩ := hblk s0 H0 C cl fp
    have hK : Y'.X.K = Y.X.K := by rw [hX]
    rw [← hX, ← hK]
    exact h1
  · intro s0 H0 C cl fp
    exact ⟨fun pins sh s H Q I h => h s0 H0 C cl fp pins sh I⟩
  · intro s0 H0 C cl fp
    exact ⟨fun pins sh s H Q I h => h s0 H0 C cl fp pins sh I⟩
  · intro pins sh I0
    refine thn ((hi.run s H σ M _ S h) pins sh I0) fun v s1 hv => thn hv fun it s2 ⟨ad, fp0, tn, J, H1, e1, e2, e3, e4, e5, ws, kc, M1, e, d, jl, q⟩ => ?_
    refine ⟨ad, fp0, tn, J, H1, e1, e2, e3, e4, e5, fun D nD => ?_⟩
    have mD := d.free nD
    obtain ⟨I, i0, ikc, step, done⟩ := q D mD
    have X1 : Ext H1 M1 (upd H1 D (.lst [])) (mset M1 D (.lst [])) := ext_mut (.inr nD)
    have d1 : Dok Y.X.K (upd H1 D (.lst [])) (mset M1 D (.lst [])) := dok_mut (u := .lst []) d (.inr nD) fun _ => ⟨[], upd_same, .nil⟩
    have S1 : Std Y s (upd H1 D (.lst [])) σ (mset M1 D (.lst [])) := (S.go e d).go X1 d1
    refine ⟨fun j m H' => m = ws.length - j ∧ j ≤ ws.length ∧ ∃ acc M', Ext (upd H1 D (.lst [])) (mset M1 D (.lst [])) H' M' ∧ Dok Y.X.K H' M' ∧ I j acc M', ⟨ws.length, by simp, Nat.zero_le _, [], _, .refl _ _, d1, i0⟩, ?_⟩
    rintro j m H3 ⟨rfl, hj, acc, M3, x3, d3, q3⟩
    obtain ⟨kc3, mD3⟩ := ikc _ _ _ q3
    obtain ⟨hgo, hstop⟩ := jl H3 M3 (X1.trans x3) d3 kc3
    by_cases hlt : j < ws.length
    · obtain ⟨hg1, hg2⟩ := hgo j ws[j] (by simp [hlt])
      refine .inr ⟨hg1, fun H' => ∃ acc M', Ext (upd H1 D (.lst [])) (mset M1 D (.lst [])) H' M' ∧ Dok Y.X.K H' M' ∧ I (j + 1) acc M', fun H4 z => ⟨ws.length - (j + 1), by omega, rfl, hlt, z⟩, fun x H4 hy => ?_⟩
      obtain ⟨x4, d4, r4⟩ := hg2 x H4 hy
      have q5 := step j ws[j] acc M3 (by simp [hlt]) q3
      have S4 : Slots Y.X.K H4 M3 (L2.wipe s (own.map (·.2))) (wipeD σ (own.map (·.2))) := ((S1.s.ext x3).ext x4).wipe _
      -- behind the target
      have fin : ∀ s5 σ5, Slots Y.X.K H4 M3 s5 σ5 → L2.wipe s5 (own.map (·.2)) = L2.wipe s (own.map (·.2)) → (tt σ5 M3 fun b M4 => if b = true then te σ5 M4 fun x M5 => M5 D = some (.lst acc) ∧ acc.length < sizeLine ∧ I (j + 1) (acc ++ [x]) (mset M5 D (.lst (acc ++ [x]))) else I (j + 1) acc M4) →
          L2.wipe s5 (own.map (·.2)) = L2.wipe s (own.map (·.2)) ∧ tF s5 H4 fun b H5 => if b = true then eF s5 H5 fun y H6 => ∃ acc, H6 D = some (.lst acc) ∧ acc.length < sizeLine ∧ ∃ acc' M', Ext (upd H1 D (.lst [])) (mset M1 D (.lst [])) (upd H6 D (.lst (acc ++ [y]))) M' ∧ Dok Y.X.K (upd H6 D (.lst (acc ++ [y]))) M' ∧ I (j + 1) acc' M'
            else ∃ acc M', Ext (upd H1 D (.lst [])) (mset M1 D (.lst [])) H5 M' ∧ Dok Y.X.K H5 M' ∧ I (j + 1) acc M' := by
        intro s5 σ5 S5 hw5 q6
        refine ⟨hw5, fun s0 H0 C cl fp pins sh I5 => ?_⟩
        obtain ⟨Y', hX, hH0, hM0, _, ht, _⟩ := hblk s0 H0 C cl fp
        have hK : Y'.X.K = Y.X.K := by rw [hX]
        have Sd : Std Y' s5 H4 σ5 M3 := ⟨by rw [hH0, hM0]; exact ((S1.e.trans x3).trans x4), by rw [hK]; exact d4, by rw [hK]; exact S5⟩
        have z := ht.run s5 H4 σ5 M3 _ Sd q6 pins sh (by rw [hX]; exact I5)
        rw [hX] at z
        refine thn z fun b s6 ⟨H5, I6, M4, x5, d5, q7⟩ => ⟨H5, I6, ?_⟩
        have d5' : Dok Y.X.K H5 M4 := by have := d5; rw [hX] at this; exact this
        cases b with
        | false =>
          rw [if_neg Bool.false_ne_true] at q7
          exact iteF ⟨acc, M4, (x3.trans x4).trans x5, d5', q7⟩
        | true =>
          rw [if_pos rfl] at q7
          refine iteT fun s0 H0 C cl fp => ?_
          obtain ⟨Y2, hX2, hH2, hM2, _, _, he⟩ := hblk s0 H0 C cl fp
          have hK2 : Y2.X.K = Y.X.K := by rw [hX2]
          have Sd2 : Std Y2 s5 H5 σ5 M4 := ⟨by rw [hH2, hM2]; exact ((S1.e.trans x3).trans x4).trans x5, by rw [hK2]; exact d5', by rw [hK2]; exact S5.ext x5⟩
          have z2 := he.run s5 H5 σ5 M4 _ Sd2 q7
          rw [hX2] at z2
          refine semE_mono z2 fun y H6 ⟨w, M5, x6, d6, r6, mD5, hz, q8⟩ => ?_
          have d6' : Dok Y.X.K H6 M5 := by have := d6; rw [hX2] at this; exact this
          have r6' : Wv Y.X.K H6 M5 y w := by have := r6; rw [hX2] at this; exact this
          obtain ⟨xs, hx, rx⟩ := d6' _ _ mD5
          have nn : M5 D ≠ none := by rw [mD5]; exact fun z => by cases z
          have X7 : Ext H6 M5 (upd H6 D (.lst (xs ++ [y]))) (mset M5 D (.lst (acc ++ [w]))) := ext_mut (.inl nn)
          refine ⟨xs, hx, by rw [Paired.length rx]; exact hz, acc ++ [w], _, (((x3.trans x4).trans x5).trans x6).trans X7, ?_, q8⟩
          refine dok_mut (u := .lst (acc ++ [w])) d6' (.inl nn) fun e => ⟨xs ++ [y], upd_same, ?_⟩
          have app : ∀ {xs : List V} {ws : List W}, WvA Y.X.K H6 M5 xs ws → WvA Y.X.K H6 M5 (xs ++ [y]) (ws ++ [w]) := by
            intro xs ws h
            induction h with
            | nil => exact .cons r6' .nil
            | cons r t ih => exact .cons r ih
          exact WvA.ext e (app rx)
      cases T with
      | one jt =>
        have q5' : tt ((wipeD σ (own.map (·.2))).set jt (some ws[j])) M3 _ := q5
        exact fin _ _ (S4.set r4 jt) (by rw [wipe_wipe_set _ _ (hT jt (by simp [Tg.js])), wipe_idem]) q5'
      | many js =>
        unfold tgQ at q5
        simp only at q5
        split at q5
        · rename_i ds hd
          rw [hd] at r4
          obtain ⟨p, xs, rfl, h1, h2⟩ := r4.tup
          refine ⟨p, xs, rfl, h1.sq, by rw [h2.length]; exact q5.1, ?_⟩
          exact gNames_run (own.map (fun x => x.2)) (s0 := s) js xs ds _ _ _ (fun m hm => hT m hm) q5.1 h2 S4 (wipe_idem _ _) fun s5 S5 hw5 => fin s5 _ S5 hw5 q5.2
        · rename_i ds hd
          rw [hd] at r4
          obtain ⟨p, xs, rfl, h1, h2⟩ := r4.pr
          refine ⟨p, xs, rfl, h1, by rw [h2.length]; exact q5.1, ?_⟩
          exact gNames_run (own.map (fun x => x.2)) (s0 := s) js xs ds _ _ _ (fun m hm => hT m hm) q5.1 h2 S4 (wipe_idem _ _) fun s5 S5 hw5 => fin s5 _ S5 hw5 q5.2
        · exact q5.elim
    · have hj' : j = ws.length := by omega
      subst hj'
      exact .inl ⟨hstop, kR _ _ ((hdn Y Q D acc H3 M3 d3 mD3 (done _ _ q3)).trans ((e.trans X1).trans x3))⟩
theorem q_lc (F : Fm g i k Y) (i' : Si) (T : Tg) {elt tg iter : Expr} {ifs : List Expr} {scope : Scope} {own : List (Str × Nat)} {pos : Pos} {ti : TId} {tt : TTd} {te : TEd} (B : BlOk i i' scope own) (hT : ∀ j ∈ T.js, j ∈ own.map (·.2)) (hi : QI Y tg iter ti)
    (hb : ∀ Y' : Dx, Fm g i' k Y' → Y'.wd = noWd → PG Y'.X tg (gV Y'.X.K T) ∧ QTs Y' ifs tt ∧ QE Y' elt te) (hs : ∀ x, foldedSetIterable iter Y.X.env x = pure x := by intro _; rfl) (hc : i.hot = false := by rfl) :
    QE Y (.ListComp elt [⟨tg, iter, ifs, 0⟩] scope pos) (tLcD ti T tt te (own.map (·.2))) := by
  obtain ⟨tF, eF, h1, h2, h3, h4⟩ := lc_l2 dnD_ok F i' T B hT hi hb
  exact ⟨fun s H σ M Q S h => semE_of (pe_lc (own := own) (wi := semIt Y.X tg iter) (g := gV Y.X.K T) (tt := tF) (te := eF) (F.calm hc) (by rw [F.N]; exact F.nd) pi_sem (by rw [F.N, F.hsc]; exact blkOk_by B.b) h1 h2 h3 hs) (h4 s H σ M Q _ S h fun _ _ z => z)⟩
theorem q_lcM (F : Fm g i k Y) (i' : Si) (T : Tg) {elt tg iter : Expr} {ifs : List Expr} {scope : Scope} {own : List (Str × Nat)} {pos : Pos} {ti : TId} {tt : TTd} {te : TEd} (B : BlOk i i' scope own) (hT : ∀ j ∈ T.js, j ∈ own.map (·.2)) (hi : QI Y tg iter ti)
    (hb : ∀ Y' : Dx, Fm g i' k Y' → Y'.wd = noWd → PG Y'.X tg (gV Y'.X.K T) ∧ QTs Y' ifs tt ∧ QE Y' elt te) (hs : ∀ x, foldedSetIterable iter Y.X.env x = pure x := by intro _; rfl) (hc : i.hot = false := by rfl) :
    QE Y (.ListComp elt [⟨tg, iter, ifs, 0⟩] scope pos) (tLcM ti T tt te (own.map (·.2))) := by
  obtain ⟨tF, eF, h1, h2, h3, h4⟩ := lc_l2 dnM_ok F i' T B hT hi hb
  exact ⟨fun s H σ M Q S h => semE_of (pe_lc (own := own) (wi := semIt Y.X tg iter) (g := gV Y.X.K T) (tt := tF) (te := eF) (F.calm hc) (by rw [F.N]; exact F.nd) pi_sem (by rw [F.N, F.hsc]; exact blkOk_by B.b) h1 h2 h3 hs) (h4 s H σ M Q _ S h fun _ _ z => z)⟩
/-- name = [..] on one line, the name a local -/
theorem s_setlc (F : Fm g i k Y) (m : Nat) (i' : Si) (T : Tg) {y : Str} {py spos : Pos} {elt tg iter : Expr} {ifs : List Expr} {scope : Scope} {own : List (Str × Nat)} {pos : Pos} {ti : TId} {tt : TTd} {te : TEd} (B : BlOk i i' scope own) (hT : ∀ j ∈ T.js, j ∈ own.map (·.2)) (hi : QI Y tg iter ti)
    (hb : ∀ Y' : Dx, Fm g i' k Y' → Y'.wd = noWd → PG Y'.X tg (gV Y'.X.K T) ∧ QTs Y' ifs tt ∧ QE Y' elt te) (hs : ∀ x, foldedSetIterable iter Y.X.env x = pure x := by intro _; rfl) (hN : i.N[m]? = some y := by rfl) (hl : i.loc.contains m = true := by rfl)
    (hk : i.sc.kind = .function := by rfl) (hp : (py.line == pos.line) = true := by rfl) (hn : (scope.names.any fun (n, k) => n == y && (k == .local || k == .cell)) = false := by first | rfl | decide +kernel) (hc : i.hot = false := by rfl) :
    QS Y (.Assign [.Name y py] (.ListComp elt [⟨tg, iter, ifs, 0⟩] scope pos) spos) (tAsn (tLcD ti T tt te (own.map (·.2))) (gNam m)) := by
  obtain ⟨tF, eF, h1, h2, h3, h4⟩ := lc_l2 dnD_ok F i' T B hT hi hb
  have lk := F.loc m y hl hN
  refine ⟨fun s H σ M D S h => semS_of (ps_setLc (own := own) (wi := semIt Y.X tg iter) (g := gV Y.X.K T) (tt := tF) (te := eF) (F.calm hc) (by rw [F.N]; exact F.nd) (by rw [F.N]; exact hN) lk (sw_true (by rw [F.hsc]; exact hk) lk hp hn) pi_sem (by rw [F.N, F.hsc]; exact blkOk_by B.b) h1 h2 h3 hs) ?_⟩
  refine h4 s H σ M (fun w M1 => gNam m w σ M1 D.nx) _ S h fun v H' z => ?_
  obtain ⟨w, M', e, d, r, q⟩ := z
  exact ⟨_, _, e, (S.go e d).set r m, q⟩
/-- name = [..] on one line, the name a local -/
theorem s_setlcM (F : Fm g i k Y) (m : Nat) (i' : Si) (T : Tg) {y : Str} {py spos : Pos} {elt tg iter : Expr} {ifs : List Expr} {scope : Scope} {own : List (Str × Nat)} {pos : Pos} {ti : TId} {tt : TTd} {te : TEd} (B : BlOk i i' scope own) (hT : ∀ j ∈ T.js, j ∈ own.map (·.2)) (hi : QI Y tg iter ti)
    (hb : ∀ Y' : Dx, Fm g i' k Y' → Y'.wd = noWd → PG Y'.X tg (gV Y'.X.K T) ∧ QTs Y' ifs tt ∧ QE Y' elt te) (hs : ∀ x, foldedSetIterable iter Y.X.env x = pure x := by intro _; rfl) (hN : i.N[m]? = some y := by rfl) (hl : i.loc.contains m = true := by rfl)
    (hk : i.sc.kind = .function := by rfl) (hp : (py.line == pos.line) = true := by rfl) (hn : (scope.names.any fun (n, k) => n == y && (k == .local || k == .cell)) = false := by first | rfl | decide +kernel) (hc : i.hot = false := by rfl) :
    QS Y (.Assign [.Name y py] (.ListComp elt [⟨tg, iter, ifs, 0⟩] scope pos) spos) (tAsn (tLcM ti T tt te (own.map (·.2))) (gNam m)) := by
  obtain ⟨tF, eF, h1, h2, h3, h4⟩ := lc_l2 dnM_ok F i' T B hT hi hb
  have lk := F.loc m y hl hN
  refine ⟨fun s H σ M D S h => semS_of (ps_setLc (own := own) (wi := semIt Y.X tg iter) (g := gV Y.X.K T) (tt := tF) (te := eF) (F.calm hc) (by rw [F.N]; exact F.nd) (by rw [F.N]; exact hN) lk (sw_true (by rw [F.hsc]; exact hk) lk hp hn) pi_sem (by rw [F.N, F.hsc]; exact blkOk_by B.b) h1 h2 h3 hs) ?_⟩
  refine h4 s H σ M (fun w M1 => gNam m w σ M1 D.nx) _ S h fun v H' z => ?_
  obtain ⟨w, M', e, d, r, q⟩ := z
  exact ⟨_, _, e, (S.go e d).set r m, q⟩
end
end Dl
set_option Elab.async false
set_option linter.all false
set_option maxRecDepth 100000
namespace Dl
open PySem PySem.Spec PyProof.Rows L2

/-! ### the law's own call -/
def spLaw : SpD := fun ws _ Q _ => ∃ ns : List Int, ws = [.scr (ns.map PyData.int)] ∧ ns.length ≤ 63 ∧ ∀ M', Q (.d (.bool true)) M'
theorem fza_ints {K : PySem.W.Frag} {H : Hp} {M : MH} : ∀ ns : List Int, FzA K H M (ns.map V.int) (ns.map PyData.int)
  | [] => .nil
  | n :: ns => .cons (.int n) (fza_ints ns)
theorem cx_false {P : Program} {w : World} {outer : List Env} {H : Hp} {s : Shared} {e : Value} {s' : Shared} (h : L2.CX P w outer H s (fun _ _ _ => False) e s') : False := by
  obtain ⟨_, _, _, _, _, _, _, _, _, _, _, _, z⟩ := h
  exact z
/-- from a heap in which the script alone is tracked, if at all -/
theorem law_from {P : Program} {w : World} {K : PySem.W.Frag} {mg mb : Str → Option Value} {k : Nat} {fa a : Addr} {fd : FuncData} {x : Str} {t : Shared} {vs : List Value} {ns : List Int}
    (F : ∀ base : Heap, K.In base → base.Ns mainGlobals mg → SysOk base → FnG ⟨P, w, K, mg, base⟩ k fa fd [x] spLaw) (hb : ∀ (s : Shared) (u : Value), BindsTo s fd ⟨[u], []⟩ [(x, u)]) (hr : Room k callerA)
    (KX : K.In t.heap) (hg : t.heap.Ns mainGlobals mg) (hbl : t.heap.Ns builtinsNs mb) (hbb : ∀ x : Str, x ≠ "__name__" → mb x = bootBuiltins x) (hlim : t.heap.NoLimit) (hsys : ∃ mm, t.heap.Ns sysModules mm) (hgen : t.gens = #[])
    (ha : t.heap.get? a = some { cls := .type "list", data := .seq vs.toArray }) (hl : ns.length ≤ 63)
    (H : Hp) (hS : FS K H (fun _ => none) a (ns.map V.int)) (hok : HOk P w H t.heap) (only : ∀ b u, H b = some u → b = a ∧ ∃ o xs, u = .frz o (.lst xs)) (apart : H a ≠ none → K.lookup a = none) :
    codeAny (model P w) callerA (.call (.ref fa) ⟨[.ref a], []⟩) (fun r s' => r = .ok (.ret (.bool true)) ∧ OldK t.heap s'.heap ∧ s'.os = t.os ∧ AllBare s'.gens) t := by
  have stays : ∀ b o, t.heap.get? b = some o → H b = none → (hidT t.heap H).get? b = some o := fun b o e n => hidT_get e n
  have dictFree : ∀ b o es n, t.heap.get? b = some o → o.data = .dict es n → H b = none := fun b o es n e d => by
    cases q : H b with
    | none => rfl
    | some u =>
      have hba := (only b u q).1
      rw [hba, ha] at e
      cases e
      cases d
  have nsStays : ∀ b m, t.heap.Ns b m → (hidT t.heap H).Ns b m := fun b m ⟨o, es, ep, e, d, r⟩ => ⟨o, es, ep, stays b o e (dictFree b o es ep e d), d, r⟩
  have inBase : K.In (hidT t.heap H) := fun b o e => stays b o (KX b o e) (by
    cases q : H b with
    | none => rfl
    | some u =>
      have hba := (only b u q).1
      rw [hba] at q e
      rw [apart (by rw [q]; exact fun z => by cases z)] at e
      cases e)
  have hmod : Mod K mg (hidT t.heap H) := ⟨inBase, nsStays _ _ hg, ⟨mb, nsStays _ _ hbl, hbb⟩, by
    obtain ⟨mc, z1, z2⟩ := hlim
    exact ⟨mc, nsStays _ _ z1, z2⟩⟩
  have hsy : SysOk (hidT t.heap H) := by
    obtain ⟨mm, z⟩ := hsys
    obtain ⟨o, es, ep, e, d, _⟩ := nsStays _ _ z
    exact ⟨o, es, ep, e, d⟩
  have env : Env0 P w K mg (hidT t.heap H) callerA [] t H := by
    refine ⟨rfl, hmod, fun b o e => of_hidT e, Nat.le_of_eq (hidT_size _ _), trivial, ?_, hok, AllBare.of_eq hgen⟩
    intro b hb
    have : b ∈ ([] : List Addr) := hb
    cases this
  have lifted : lift K spLaw [.ref a] H (fun v _ => v = .bl true) (fun _ _ _ => False) := by
    refine ⟨[.scr (ns.map PyData.int)], fun _ => none, fun u _ => u = .d (.bool true), fun _ _ _ => False, fun b o e => (by cases e), .cons ⟨a, _, rfl, hS, fza_ints ns⟩ .nil, ⟨ns, rfl, hl, fun _ => rfl⟩, ?_, fun _ _ _ _ _ _ _ _ z => z⟩
    intro v H' u M' _ _ r e
    subst e
    exact r.bool
  have run := (F _ inBase (nsStays _ _ hg) hsy).run callerA [] t H ⟨[.ref a], []⟩ [.ref a] [.ref a] _ _ rfl (fun _ => hr.hd) ⟨hr.dp, hr.un⟩ env (hb t (.ref a)) (.cons rfl .nil) lifted
  refine codeAny_mono run fun r s' h => ?_
  cases r with
  | error e => exact (cx_false (show L2.CX P w [] H t _ e s' from h)).elim
  | ok fl =>
    cases fl with
    | ret u =>
      obtain ⟨v, H', os, bare, un, hok', rv, hv⟩ := h
      have hv' : v = .bl true := hv
      rw [hv'] at rv
      have hu : u = Value.bool true := rv
      refine ⟨by rw [hu], ?_, os, bare⟩
      refine OldK.of_keep fun b o e => ?_
      cases q : H b with
      | none =>
        refine un.keep b o e q (fun z => ?_) (by simp)
        have : b ∈ ([] : List Addr) := z
        cases this
      | some u' =>
        obtain ⟨_, ob, xs, hu'⟩ := only b u' q
        rw [hu'] at q
        have e1 := (hok b _ q).1
        have e2 := (hok' b _ (un.frzs b ob _ q)).1
        rw [e] at e1
        rw [e2, ← e1]
    | next => exact (show False from h).elim
    | brk => exact (show False from h).elim
    | cont => exact (show False from h).elim

theorem law_walk {l : PySem.W.OpenLaw} {k : Nat} {q : Program} {loose : List Str} {XP : (Str → Option Value) → Heap → Prop} {YP : World → Heap → Prop} {d : DefRec} {K : Params → PySem.W.Frag} {x : Str}
    (hn : l.most = some 63) (hdf : d.params.defaults = []) (hr : Room k callerA) (hq : importsNone q = true) (hY : ∀ (w : World) (h : Heap), YP w h → (K w.params).In h)
    (F : ∀ (w : World) (mg : Str → Option Value) (fa : Addr) (h : Heap), (K w.params).In h → h.Ns mainGlobals mg → mg d.name = some (.ref fa) →
      ∃ fd : FuncData, (∀ (s : Shared) (u : Value), BindsTo s fd ⟨[u], []⟩ [(x, u)]) ∧ ∀ base : Heap, (K w.params).In base → base.Ns mainGlobals mg → SysOk base → FnG ⟨l.prog, w, K w.params, mg, base⟩ k fa fd [x] spLaw) :
    PySem.W.WalkO q loose XP YP l.row.toRowW d [] (fun f vs => PySem.call f vs) := by
  refine Att.attach_call hn hdf ?_
  intro w s₀ t mg mb fa o pm cd doc a vs ns G YY ho hd hcd hmg hobj hints hlen hgen
  have KX := hY w _ YY
  obtain ⟨fd, hb, hF⟩ := F w mg fa _ KX G.T.g hmg
  have rv := vals_ints hints
  have hsys : ∃ mm, t.heap.Ns sysModules mm := by
    have z := G.T.seer hq
    obtain ⟨mm, z1, _⟩ := z.mods
    exact ⟨mm, z1⟩
  have lenV : vs.length = ns.length := by rw [← rv.length, List.length_map]
  have small : ns.length ≤ sizeLine := by rw [sizeLine_eq]; omega
  have core := fun H => law_from (mb := mb) (vs := vs) (ns := ns) (a := a) hF hb hr KX G.T.g G.T.b G.T.builtins G.T.nolimit hsys hgen hobj hlen H
  cases hk : (K w.params).lookup a with
  | some ob =>
    have e := KX a ob hk
    rw [hobj] at e
    cases e
    refine core (fun _ => none) (Or.inr (Or.inr ⟨_, vs.toArray, _, hk, rfl, rfl, rfl, ?_, ?_⟩)) (fun b u z => by cases z) (fun b u z => by cases z) (fun z => absurd rfl z)
    · rw [List.size_toArray, lenV]; exact small
    · simpa using rv
  | none =>
    refine core (fun b => if b = a then some (.frz { cls := .type "list", data := .seq vs.toArray } (.lst (ns.map V.int))) else none) (Or.inl ⟨Or.inr ⟨_, if_pos rfl⟩, rfl⟩) ?_ ?_ (fun _ => hk)
    · intro b u z
      try dsimp only at z
      by_cases e : b = a
      · subst e
        rw [if_pos rfl] at z
        cases z
        exact ⟨hobj, ⟨by rw [List.length_map]; exact small, vs, _, rv, hobj⟩⟩
      · rw [if_neg e] at z
        cases z
    · intro b u z
      try dsimp only at z
      by_cases e : b = a
      · subst e
        rw [if_pos rfl] at z
        cases z
        exact ⟨rfl, _, _, rfl⟩
      · rw [if_neg e] at z
        cases z
end Dl
set_option Elab.async false
set_option linter.all false
set_option maxRecDepth 100000
namespace Dl
open PySem PySem.Spec PyProof.Rows L2

/-! ### the text's facts -/
structure Pl (g : Gc) (x : Str) (st : Stmt) : Prop where
  ex : ∃ f fd, Fun g.K x x st f fd ∧ g.mg x = some (.ref f)
structure Cst (g : Gc) (x : Str) (d : PyData) : Prop where
  ex : ∃ v u, g.mg x = some u ∧ RelV v u ∧ ∀ H M, Fz g.K H M v d
theorem df_of {g : Gc} {i : Si} {k : Nat} {x : Str} {st : Stmt} {ps : List Str} {sp : SpD} (P : Pl g x st) (hsy : SysOk g.base) (Sc : FnScope i.N ps (defScope st)) (ok : ScOk i (defScope st))
    (hb : ∀ (kV doc pm : Value) (an : Option Addr) (cdv ct : Value) (us : List Value), us.length = ps.length → bindArgs (PySem.W.fnOf x x (defArgs st) (defBody st) (defScope st) .none kV doc pm an cdv ct) ⟨us, []⟩ = pure (ps.zip us))
    (len : ∀ ws M Q E, sp ws M Q E → ws.length = ps.length)
    (body : ∀ (Y : Dx) (ws : List W) (M : MH) (Q : W → MH → Prop) (E : XD), Fm g i k Y → Y.wd = (fun cls fs _ M' => E cls fs M') → sp ws M Q E → ∃ t, QSs Y (defBody st) t ∧ t { nx := fun _ M' => Q (.d .none) M', rt := Q } (startD i.N ws) M) : Df g (k + 1) x ps sp i.hot := by
  obtain ⟨f, fd, F, m⟩ := P.ex
  exact ⟨f, fd, fng_of F Sc ok hsy len body, m, F.kp, F.binds hb⟩
section
variable {g : Gc} {i : Si} {k : Nat} {Y : Dx}
theorem q_cst (F : Fm g i k Y) (j : Nat) {x : Str} {pos : Pos} {d : PyData} (C : Cst g x d) (hj : i.gls[j]? = some x := by rfl) : QE Y (.Name x pos) (tK d) := by
  obtain ⟨v, u, h1, h2, h3⟩ := C.ex
  exact q_glob F j h1 h2 h3 hj
theorem pgN (F : Fm g i k Y) (j : Nat) {x : Str} {pos : Pos} (hN : i.N[j]? = some x := by rfl) (hl : i.loc.contains j = true := by rfl) : PG Y.X (.Name x pos) (gV Y.X.K (.one j)) :=
  pg_name (i := j) (by rw [F.N]; exact F.nd) (by rw [F.N]; exact hN) (.inl (F.loc j x hl hN)) (.inr (F.loc j x hl hN))
theorem pgNc (F : Fm g i k Y) (j : Nat) {x : Str} {pos : Pos} (hN : i.N[j]? = some x := by rfl) (hl : i.cel.contains j = true := by rfl) : PG Y.X (.Name x pos) (gV Y.X.K (.one j)) :=
  pg_name (i := j) (by rw [F.N]; exact F.nd) (by rw [F.N]; exact hN) (.inr (F.cel j x hl hN).1) (.inl (F.cel j x hl hN).2)
theorem pgsN0 {Y : Dx} : PGs Y.X [] (gNames []) := pgs_nil
theorem pgsN (F : Fm g i k Y) (j : Nat) {x : Str} {pos : Pos} {es : List Expr} {js : List Nat} (h : PGs Y.X es (gNames js)) (hN : i.N[j]? = some x := by rfl) (hl : i.loc.contains j = true := by rfl)
    (hs : (assignEach (.Name x pos :: es) Y.X.env).map (·.2) = assign (.Name x pos) Y.X.env :: (assignEach es Y.X.env).map (·.2) := by rfl) : PGs Y.X (.Name x pos :: es) (gNames (j :: js)) := pgs_cons (pgN F j hN hl) h hs
theorem pgT (F : Fm g i k Y) {es : List Expr} {js : List Nat} {kk : Nat} {pos : Pos} (h : PGs Y.X es (gNames js)) (hn : (assignEach es Y.X.env).length = js.length := by rfl) (hst : (assignEach es Y.X.env).findIdx? (·.1) = none := by rfl) (hc : i.hot = false := by rfl) : PG Y.X (.Tuple es kk pos) (gV Y.X.K (.many js)) := pg_tup (F.calm hc) h hn hst
/-- -x -/
def tNeg (t : TEd) : TEd := fun σ M Q => t σ M fun w M1 => match w with | .d (.int n) => Q (.d (.int (-n))) M1 | _ => False
theorem q_neg {e : Expr} {t : TEd} {pos : Pos} (he : QE Y e t) : QE Y (.UnaryOp .USub e pos) (tNeg t) := by
  refine ⟨fun s H σ M Q S h => semE_of (pe_un un_neg pe_sem) (he.then_ S h fun v H1 w M1 e d r q => ?_)⟩
  split at q
  · exact ⟨_, r.int, ((S.go e d).here (wInt _) q).trans e⟩
  · exact q.elim
/-- {} as a datum -/
def tDct0 : TEd := fun _ M Q => Q (.d (.dict [])) M
theorem q_dct0 {pos : Pos} : QE Y (.Dict [] [] pos) tDct0 := by
  refine ⟨fun s H σ M Q S h => semE_of pe_dnewK fun p n => ?_⟩
  exact std_new S n (fun e m => Fz.dK upd_same m .nil) h
/-- a fresh list that is kept as a datum -/
def tFrz (t : TEd) : TEd := fun σ M Q => t σ M fun w M1 => match w with
  | .ref p => ∃ ws, M1 p = some (.lst ws) ∧ dataQ (fun ds M2 => Q (.d (.list ds)) M2) ws (mdel M1 p)
  | w => Q w M1
theorem q_frz {e : Expr} {t : TEd} (he : QE Y e t) : QE Y e (tFrz t) := by
  refine ⟨fun s H σ M Q S h => he.then_ S h fun v H1 w M1 e d r q => ?_⟩
  cases w with
  | d x => exact ⟨_, M1, e, d, r, q⟩
  | scr xs => exact ⟨_, M1, e, d, r, q⟩
  | pr xs => exact ⟨_, M1, e, d, r, q⟩
  | ref p =>
    obtain ⟨ws, hm, q1⟩ := q
    obtain ⟨ds, hds, q2⟩ := dataQ_get q1
    subst hds
    obtain rfl := (show v = _ from r)
    obtain ⟨xs, h1, h2⟩ := d _ _ hm
    exact ⟨.d (.list ds), mdel M1 p, e.trans (ext_less mdel_less), dok_less d mdel_less, Fz.lst ⟨h1, mdel_same⟩ (FzA.ext (ext_less mdel_less) ds xs (FzA.of_wv h2)), q2⟩
end

/-! ### comprehensions, told in short -/
/-- all that may change in M is so in M' -/
def Keep (M M' : MH) : Prop := ∀ b o, M b = some o → M' b = some o
theorem Keep.refl (M : MH) : Keep M M := fun _ _ h => h
theorem Keep.trans {M M1 M2 : MH} (a : Keep M M1) (b : Keep M1 M2) : Keep M M2 := fun c o h => b c o (a c o h)
theorem keep_new {M : MH} {p : Addr} {o : O} (h : M p = none) : Keep M (mset M p o) := fun b u e => by
  rw [mset_ne (fun z => by rw [z, h] at e; cases e)]
  exact e
theorem mdel_mset {M : MH} {p : Addr} {o : O} (h : M p = none) : mdel (mset M p o) p = M := by
  funext b
  by_cases e : b = p
  · subst e
    rw [mdel_same, h]
  · rw [mdel_ne e, mset_ne e]
theorem mset_mset {M : MH} {p : Addr} {o u : O} : mset (mset M p o) p u = mset M p u := by
  funext b
  by_cases e : b = p
  · subst e
    rw [mset_same, mset_same]
  · rw [mset_ne e, mset_ne e, mset_ne e]
theorem getElem?_take_succ {α : Type} {xs : List α} {j : Nat} {x : α} (h : xs[j]? = some x) : xs.take (j + 1) = xs.take j ++ [x] := by
  rw [List.take_add_one, h]
  rfl
/-- elements that are plain data of the items -/
theorem lcP {ws : List W} {kc : MH → Prop} {M1 : MH} {σ : SD} {vs : List Nat} {T : Tg} {tt : TTd} {te : TEd} {R0 : List PyData → MH → Prop} (f : W → Bool) (h : W → PyData) (hz : ws.length ≤ 16000000) (hkc : ∀ D acc, M1 D = none → kc (mset M1 D (.lst acc)))
    (he : ∀ w ∈ ws, tgQ T w (wipeD σ vs) fun σ2 => ∀ M2, Keep M1 M2 → (∀ R : Bool → MH → Prop, R (f w) M2 → tt σ2 M2 R) ∧ (f w = true → ∀ R : W → MH → Prop, R (.d (h w)) M2 → te σ2 M2 R)) (q : R0 ((ws.filter f).map h) M1) :
    ∀ D, M1 D = none → ∃ I : Nat → List W → MH → Prop, I 0 [] (mset M1 D (.lst [])) ∧ (∀ j acc M2, I j acc M2 → kc M2 ∧ M2 D = some (.lst acc)) ∧
      (∀ j w acc M2, ws[j]? = some w → I j acc M2 → tgQ T w (wipeD σ vs) fun σ2 => tt σ2 M2 fun b M4 => if b = true then te σ2 M4 fun x M5 => M5 D = some (.lst acc) ∧ acc.length < sizeLine ∧ I (j + 1) (acc ++ [x]) (mset M5 D (.lst (acc ++ [x]))) else I (j + 1) acc M4) ∧
      (∀ acc M2, I ws.length acc M2 → dataQ R0 acc (mdel M2 D)) := by
  intro D nD
  refine ⟨fun j acc M2 => M2 = mset M1 D (.lst acc) ∧ acc = (((ws.take j).filter f).map h).map W.d, ⟨rfl, rfl⟩, ?_, ?_, ?_⟩
  · rintro j acc M2 ⟨rfl, _⟩
    exact ⟨hkc D acc nD, mset_same⟩
  · rintro j w acc M2 hj ⟨rfl, hacc⟩
    have hw := he w (List.mem_of_getElem? hj)
    have len : acc.length < sizeLine := by
      rw [hacc, List.length_map, List.length_map, sizeLine_eq]
      have h1 := List.length_filter_le f (ws.take j)
      have h2 : (ws.take j).length ≤ ws.length := by rw [List.length_take]; omega
      omega
    have go : ∀ σ2, (∀ M2, Keep M1 M2 → (∀ R : Bool → MH → Prop, R (f w) M2 → tt σ2 M2 R) ∧ (f w = true → ∀ R : W → MH → Prop, R (.d (h w)) M2 → te σ2 M2 R)) →
        tt σ2 (mset M1 D (.lst acc)) fun b M4 => if b = true then te σ2 M4 fun x M5 => M5 D = some (.lst acc) ∧ acc.length < sizeLine ∧ (mset M5 D (.lst (acc ++ [x])) = mset M1 D (.lst (acc ++ [x])) ∧ acc ++ [x] = (((ws.take (j + 1)).filter f).map h).map W.d) else (M4 = mset M1 D (.lst acc) ∧ acc = (((ws.take (j + 1)).filter f).map h).map W.d) := by
      intro σ2 z
      obtain ⟨z1, z2⟩ := z _ (keep_new nD)
      refine z1 _ ?_
      cases hf : f w with
      | true =>
        refine iteT (z2 hf _ ⟨mset_same, len, mset_mset, ?_⟩)
        rw [getElem?_take_succ hj, List.filter_append, List.map_append, List.map_append, ← hacc]
        simp [hf]
      | false =>
        refine iteF ⟨rfl, ?_⟩
        rw [getElem?_take_succ hj, List.filter_append, List.map_append, List.map_append, ← hacc]
        simp [hf]
    cases T with
    | one jt => exact go _ hw
    | many js =>
      unfold tgQ at hw ⊢
      simp only at hw ⊢
      split at hw
      · exact ⟨hw.1, go _ hw.2⟩
      · exact ⟨hw.1, go _ hw.2⟩
      · exact hw.elim
  · rintro acc M2 ⟨rfl, hacc⟩
    rw [List.take_length] at hacc
    rw [hacc, mdel_mset nD]
    unfold dataQ
    rw [allD_map]
    exact q
/-- .. told by an equation -/
theorem lcPe {ws : List W} {kc : MH → Prop} {M1 : MH} {σ : SD} {vs : List Nat} {T : Tg} {tt : TTd} {te : TEd} {R0 : List PyData → MH → Prop} (f : W → Bool) (h : W → PyData) (ds : List PyData) (e : (ws.filter f).map h = ds) (hz : ws.length ≤ 16000000) (hkc : ∀ D acc, M1 D = none → kc (mset M1 D (.lst acc)))
    (he : ∀ w ∈ ws, tgQ T w (wipeD σ vs) fun σ2 => ∀ M2, Keep M1 M2 → (∀ R : Bool → MH → Prop, R (f w) M2 → tt σ2 M2 R) ∧ (f w = true → ∀ R : W → MH → Prop, R (.d (h w)) M2 → te σ2 M2 R)) (q : R0 ds M1) :
    ∀ D, M1 D = none → ∃ I : Nat → List W → MH → Prop, I 0 [] (mset M1 D (.lst [])) ∧ (∀ j acc M2, I j acc M2 → kc M2 ∧ M2 D = some (.lst acc)) ∧
      (∀ j w acc M2, ws[j]? = some w → I j acc M2 → tgQ T w (wipeD σ vs) fun σ2 => tt σ2 M2 fun b M4 => if b = true then te σ2 M4 fun x M5 => M5 D = some (.lst acc) ∧ acc.length < sizeLine ∧ I (j + 1) (acc ++ [x]) (mset M5 D (.lst (acc ++ [x]))) else I (j + 1) acc M4) ∧
      (∀ acc M2, I ws.length acc M2 → dataQ R0 acc (mdel M2 D)) := by
  subst e
  exact lcP f h hz hkc he q
theorem filter_all {α : Type} (l : List α) : l.filter (fun _ => true) = l := by induction l with | nil => rfl | cons x l ih => simp
/-- .. all of them -/
theorem lcA {ws : List W} {kc : MH → Prop} {M1 : MH} {σ : SD} {vs : List Nat} {T : Tg} {te : TEd} {R0 : List PyData → MH → Prop} (h : W → PyData) (hz : ws.length ≤ 16000000) (hkc : ∀ D acc, M1 D = none → kc (mset M1 D (.lst acc)))
    (he : ∀ w ∈ ws, tgQ T w (wipeD σ vs) fun σ2 => ∀ M2, Keep M1 M2 → ∀ R : W → MH → Prop, R (.d (h w)) M2 → te σ2 M2 R) (q : R0 (ws.map h) M1) :
    ∀ D, M1 D = none → ∃ I : Nat → List W → MH → Prop, I 0 [] (mset M1 D (.lst [])) ∧ (∀ j acc M2, I j acc M2 → kc M2 ∧ M2 D = some (.lst acc)) ∧
      (∀ j w acc M2, ws[j]? = some w → I j acc M2 → tgQ T w (wipeD σ vs) fun σ2 => tAll σ2 M2 fun b M4 => if b = true then te σ2 M4 fun x M5 => M5 D = some (.lst acc) ∧ acc.length < sizeLine ∧ I (j + 1) (acc ++ [x]) (mset M5 D (.lst (acc ++ [x]))) else I (j + 1) acc M4) ∧
      (∀ acc M2, I ws.length acc M2 → dataQ R0 acc (mdel M2 D)) := by
  refine lcP (fun _ => true) h hz hkc (fun w hw => ?_) (by rw [filter_all]; exact q)
  have z := he w hw
  cases T with
  | one jt => exact fun M2 k => ⟨fun R r => r, fun _ => z M2 k⟩
  | many js =>
    unfold tgQ at z ⊢
    simp only at z ⊢
    split at z
    · exact ⟨z.1, fun M2 k => ⟨fun R r => r, fun _ => z.2 M2 k⟩⟩
    · exact ⟨z.1, fun M2 k => ⟨fun R r => r, fun _ => z.2 M2 k⟩⟩
    · exact z.elim
/-- .. told by an equation -/
theorem lcAe {ws : List W} {kc : MH → Prop} {M1 : MH} {σ : SD} {vs : List Nat} {T : Tg} {te : TEd} {R0 : List PyData → MH → Prop} (h : W → PyData) (ds : List PyData) (e : ws.map h = ds) (hz : ws.length ≤ 16000000) (hkc : ∀ D acc, M1 D = none → kc (mset M1 D (.lst acc)))
    (he : ∀ w ∈ ws, tgQ T w (wipeD σ vs) fun σ2 => ∀ M2, Keep M1 M2 → ∀ R : W → MH → Prop, R (.d (h w)) M2 → te σ2 M2 R) (q : R0 ds M1) :
    ∀ D, M1 D = none → ∃ I : Nat → List W → MH → Prop, I 0 [] (mset M1 D (.lst [])) ∧ (∀ j acc M2, I j acc M2 → kc M2 ∧ M2 D = some (.lst acc)) ∧
      (∀ j w acc M2, ws[j]? = some w → I j acc M2 → tgQ T w (wipeD σ vs) fun σ2 => tAll σ2 M2 fun b M4 => if b = true then te σ2 M4 fun x M5 => M5 D = some (.lst acc) ∧ acc.length < sizeLine ∧ I (j + 1) (acc ++ [x]) (mset M5 D (.lst (acc ++ [x]))) else I (j + 1) acc M4) ∧
      (∀ acc M2, I ws.length acc M2 → dataQ R0 acc (mdel M2 D)) := by
  subst e
  exact lcA h hz hkc he q
end Dl
set_option Elab.async false
set_option linter.all false
set_option maxRecDepth 100000
namespace Dl
open PySem PySem.Spec PyProof.Rows L2

/-! ### ways -/
theorem ifD {c A B : Prop} [Decidable c] (h1 : c → A) (h2 : ¬ c → B) : if decide c = true then A else B := by
  by_cases h : c
  · rw [if_pos (decide_eq_true h)]; exact h1 h
  · rw [if_neg (by rw [decide_eq_false h]; exact Bool.false_ne_true)]; exact h2 h
theorem ifB {b : Bool} {A B : Prop} (h1 : b = true → A) (h2 : b = false → B) : if b = true then A else B := by
  cases b
  · exact iteF (h2 rfl)
  · exact iteT (h1 rfl)

/-! ### sizes of numbers -/
theorem bits_le {x : Int} {n : Nat} (h : x.natAbs < 2 ^ n) : Builtin.Int.intBits x ≤ n := by
  by_cases hx : x = 0
  · subst hx
    have : Builtin.Int.intBits 0 = 0 := by decide
    omega
  · have h0 : x.natAbs ≠ 0 := by omega
    have := (Nat.log2_lt h0).mpr h
    unfold Builtin.Int.intBits
    split <;> omega
theorem powOk_of {x : Int} {n : Nat} {k : Int} (h : x.natAbs < 2 ^ n) (h0 : 0 ≤ k) (hk : n * k.toNat ≤ 2 ^ 27) : powOk x k := by
  refine ⟨h0, ?_⟩
  have h1 := bits_le h
  have h2 : Builtin.Int.intBits x * k.toNat ≤ n * k.toNat := Nat.mul_le_mul_right _ h1
  have h3 : ((Builtin.Int.intBits x : Nat) : Int) * k = ((Builtin.Int.intBits x * k.toNat : Nat) : Int) := by
    rw [Int.natCast_mul, Int.toNat_of_nonneg h0]
  rw [h3]
  have : Builtin.Int.intBits x * k.toNat ≤ 2 ^ 27 := Nat.le_trans h2 hk
  exact_mod_cast this
theorem log2_lt {x : Int} {n : Nat} (h0 : 0 < n) (h : x.natAbs < 2 ^ n) : x.natAbs.log2 < n := PySem.Flt.log2_lt_of h0 h
theorem mulOk_of {x y : Int} {n m : Nat} (hn : 0 < n) (hm : 0 < m) (hx : x.natAbs < 2 ^ n) (hy : y.natAbs < 2 ^ m) (h : n + m ≤ 1000000) : mulOk x y := by
  have a := log2_lt hn hx
  have b := log2_lt hm hy
  unfold mulOk
  omega
theorem divOk_of {x y : Int} {n : Nat} (h : y ≠ 0) (hn : 0 < n) (hy : y.natAbs < 2 ^ n) (h9 : n ≤ 9000) : divOk x y := ⟨h, Nat.lt_of_lt_of_le (log2_lt hn hy) h9⟩
theorem fmod_pos {x y : Int} (h : 0 < y) : x.fmod y = x % y := Int.fmod_eq_emod_of_nonneg x (by omega)
theorem fdiv_pos {x y : Int} (h : 0 < y) : x.fdiv y = x / y := Int.fdiv_eq_ediv_of_nonneg x (by omega)

/-! ### the laws' pot: a list of three numbers -/
def Pot (a : Addr) (n : Nat) (M : MH) : Prop := ∃ x y z : Int, M a = some (.lst [.d (.int x), .d (.int y), .d (.int z)]) ∧ 0 ≤ x ∧ x.natAbs < 2 ^ 2000 ∧ 0 ≤ y ∧ y.natAbs < 2 ^ 61 ∧ 0 ≤ z ∧ z ≤ n
def Oth (a : Addr) (M M' : MH) : Prop := ∀ b o, b ≠ a → M b = some o → M' b = some o
theorem Oth.refl (a : Addr) (M : MH) : Oth a M M := fun _ _ _ h => h
theorem Oth.trans {a : Addr} {M M1 M2 : MH} (h : Oth a M M1) (k : Oth a M1 M2) : Oth a M M2 := fun b o n e => k b o n (h b o n e)
theorem oth_set {a : Addr} {M : MH} {o : O} : Oth a M (mset M a o) := fun b u n e => by rw [mset_ne n]; exact e
theorem Pot.mono {a : Addr} {n m : Nat} {M : MH} (h : Pot a n M) (k : n ≤ m) : Pot a m M := by
  obtain ⟨x, y, z, h1, h2, h3, h4, h5, h6, h7⟩ := h
  exact ⟨x, y, z, h1, h2, h3, h4, h5, h6, by omega⟩
theorem Pot.there {a : Addr} {n : Nat} {M : MH} (h : Pot a n M) : M a ≠ none := by
  obtain ⟨x, y, z, h1, _⟩ := h
  rw [h1]
  exact fun z => by cases z
/-- as many draws as there may be -/
def lots : Nat := 2 ^ 30
/-- a draw below m -/
def spTake : SpD := fun ws M Q _ => ∃ (a : Addr) (n : Nat) (m : Int), ws = [.ref a, .d (.int m)] ∧ 1 ≤ m ∧ m.natAbs < 2 ^ 2000 ∧ n < lots ∧ Pot a n M ∧ ∀ r M', 0 ≤ r → r < m → Pot a (n + 1) M' → Oth a M M' → Q (.d (.int r)) M'
theorem spTake_len : ∀ ws M Q E, spTake ws M Q E → ws.length = 2 := by rintro _ _ _ _ ⟨a, n, m, rfl, _⟩; rfl
/-- a pot made -/
def spPot : SpD := fun ws M Q _ => ∃ (ns : List Int) (k : Int), ws = [.scr (ns.map PyData.int), .d (.int k)] ∧ 0 ≤ k ∧ k < 2 ^ 20 ∧ ∀ p M', M p = none → Pot p 0 M' → Oth p M M' → Q (.ref p) M'
theorem spPot_len : ∀ ws M Q E, spPot ws M Q E → ws.length = 2 := by rintro _ _ _ _ ⟨a, n, rfl, _⟩; rfl
/-- something drawn: from the pot at a and plain data, by at most c draws -/
def spDraw (c : Nat) (args : List W → Addr → Prop) (P : List W → PyData → Prop) : SpD := fun ws M Q _ => ∃ (a : Addr) (n : Nat), args ws a ∧ n + c ≤ lots ∧ Pot a n M ∧ ∀ x M', P ws x → Pot a (n + c) M' → Oth a M M' → Q (.d x) M'
theorem at0 {α : Type} {x : α} {l : List α} : atI (x :: l) 0 = some x := by
  have := atI_nat (xs := x :: l) (j := 0) (v := x) rfl
  simpa using this
theorem at1 {α : Type} {x y : α} {l : List α} : atI (x :: y :: l) 1 = some y := by
  have := atI_nat (xs := x :: y :: l) (j := 1) (v := y) rfl
  simpa using this
theorem at2 {α : Type} {x y z : α} {l : List α} : atI (x :: y :: z :: l) 2 = some z := by
  have := atI_nat (xs := x :: y :: z :: l) (j := 2) (v := z) rfl
  simpa using this
theorem atI_mem {α : Type} {xs : List α} {r : Int} (h0 : 0 ≤ r) (h : r < xs.length) : ∃ d, atI xs r = some d ∧ d ∈ xs := by
  obtain ⟨n, rfl⟩ := Int.eq_ofNat_of_zero_le h0
  have hn : n < xs.length := by omega
  exact ⟨xs[n], atI_nat (by simp [hn]), by simp⟩
end Dl
set_option Elab.async false
set_option linter.all false
set_option maxRecDepth 100000
namespace Dl
open PySem PySem.Spec PyProof.Rows L2

theorem fm_lo {x m : Int} (h : 0 < m) : 0 ≤ x.fmod m := by rw [fmod_pos h]; exact Int.emod_nonneg _ (by omega)
theorem fm_hi {x m : Int} (h : 0 < m) : x.fmod m < m := by rw [fmod_pos h]; exact Int.emod_lt_of_pos _ h
theorem fm_bits {x m : Int} {n : Nat} (h : 0 < m) (hm : m.natAbs ≤ 2 ^ n) : (x.fmod m).natAbs < 2 ^ n := by
  have a := fm_lo (x := x) h
  have b := fm_hi (x := x) h
  generalize 2 ^ n = N at hm ⊢
  omega
theorem nat_lt_of {x : Int} {n m : Nat} (h : x.natAbs < 2 ^ n) (k : n ≤ m) : x.natAbs < 2 ^ m := Nat.lt_of_lt_of_le h (Nat.pow_le_pow_right (by decide) k)
def bigM : Int := ((10 : Int) ^ (60 : Int).toNat) ^ (10 : Int).toNat
theorem bigM_pos : 0 < bigM := by decide +kernel
theorem bigM_bits : bigM.natAbs ≤ 2 ^ 2000 := by decide +kernel
/-- what the laws' pot asks of its cell -/
theorem pot_cell (x : Int) : powOk 10 60 ∧ powOk ((10 : Int) ^ (60 : Int).toNat) 10 ∧ divOk (x.natAbs : Int) bigM ∧ 0 ≤ (x.natAbs : Int).fmod bigM ∧ ((x.natAbs : Int).fmod bigM).natAbs < 2 ^ 2000 :=
  ⟨powOk_of (n := 4) (by decide) (by decide) (by decide), powOk_of (n := 200) (by decide +kernel) (by decide) (by decide), divOk_of (n := 2001) (by decide +kernel) (by decide) (by decide +kernel) (by decide), fm_lo bigM_pos, fm_bits bigM_pos bigM_bits⟩
/-- what it asks to be put together, and that it is a pot -/
theorem pot_made {c k : Int} {b : Bool} (h0 : 0 ≤ c) (h1 : c.natAbs < 2 ^ 2000) (k0 : 0 ≤ k) (k1 : k < 2 ^ 20) : powOk 10 18 ∧ mulOk c (if b = true then 1 else 0) ∧ divOk c 2147483629 ∧ mulOk 7919 k ∧ powOk (c.fmod 2147483629 + 7919 * k + 1) 5 ∧ divOk ((c.fmod 2147483629 + 7919 * k + 1) ^ (5 : Int).toNat) 2305843009213693951 ∧
    ∀ (a : Addr) (M : MH), Pot a 0 (mset M a (.lst [.d (.int (c * (if b = true then 1 else 0))), .d (.int (((c.fmod 2147483629 + 7919 * k + 1) ^ (5 : Int).toNat).fmod 2305843009213693951)), .d (.int 0)])) := by
  have d1 := fm_lo (x := c) (m := 2147483629) (by decide)
  have d2 := fm_hi (x := c) (m := 2147483629) (by decide)
  have e20 : (2 : Int) ^ 20 = 1048576 := by decide
  rw [e20] at k1
  have e34 : (2 : Nat) ^ 34 = 17179869184 := by decide
  refine ⟨powOk_of (n := 4) (by decide) (by decide) (by decide), mulOk_of (n := 2000) (m := 1) (by decide) (by decide) h1 (by cases b <;> decide) (by decide), divOk_of (n := 31) (by decide) (by decide) (by decide) (by decide), mulOk_of (n := 13) (m := 20) (by decide) (by decide) (by decide) (by rw [show (2 : Nat) ^ 20 = 1048576 by decide]; omega) (by decide), powOk_of (n := 34) (by rw [e34]; omega) (by decide) (by decide), divOk_of (n := 61) (by decide) (by decide) (by decide) (by decide), fun a M => ⟨_, _, 0, mset_same, ?_, ?_, fm_lo (by decide), fm_bits (by decide) (by decide), by decide, by decide⟩⟩
  · cases b
    · rw [if_neg Bool.false_ne_true, Int.mul_zero]
      decide
    · rw [if_pos rfl, Int.mul_one]
      exact h0
  · cases b
    · rw [if_neg Bool.false_ne_true, Int.mul_zero]
      exact Nat.two_pow_pos _
    · rw [if_pos rfl, Int.mul_one]
      exact h1
/-- a draw from a pot that has something -/
theorem take_full {x m : Int} (h : 0 < x) (hx : x.natAbs < 2 ^ 2000) (h1 : 1 ≤ m) (hm : m.natAbs < 2 ^ 2000) : divOk x m ∧ 0 ≤ x.fmod m ∧ x.fmod m < m ∧ 0 ≤ x.fdiv m ∧ (x.fdiv m).natAbs < 2 ^ 2000 := by
  refine ⟨divOk_of (n := 2000) (by omega) (by decide) hm (by decide), fm_lo (by omega), fm_hi (by omega), ?_, ?_⟩
  · rw [fdiv_pos (by omega)]
    exact Int.ediv_nonneg (by omega) (by omega)
  · rw [fdiv_pos (by omega)]
    have a : 0 ≤ x / m := Int.ediv_nonneg (by omega) (by omega)
    have b : x / m ≤ x := Int.ediv_le_self m (by omega)
    generalize 2 ^ 2000 = N at hx ⊢
    omega
/-- a draw from a pot that has nothing more -/
def tk1 (y z : Int) : Int := ((y + 104729 * z) ^ (3 : Int).toNat).fmod 2305843009213693921
def tk2 (y z : Int) : Int := ((tk1 y z + y.fmod 65537 + 31 * z) ^ (5 : Int).toNat).fmod 2305843009213693907
theorem take_none {y z m : Int} (hy0 : 0 ≤ y) (hy : y.natAbs < 2 ^ 61) (hz0 : 0 ≤ z) (hz : z ≤ lots) (h1 : 1 ≤ m) (hm : m.natAbs < 2 ^ 2000) :
    mulOk 104729 z ∧ powOk (y + 104729 * z) 3 ∧ divOk ((y + 104729 * z) ^ (3 : Int).toNat) 2305843009213693921 ∧ divOk y 65537 ∧ mulOk 31 z ∧ powOk (tk1 y z + y.fmod 65537 + 31 * z) 5 ∧ divOk ((tk1 y z + y.fmod 65537 + 31 * z) ^ (5 : Int).toNat) 2305843009213693907 ∧ divOk (tk2 y z) 1024 ∧ divOk ((tk2 y z).fdiv 1024) m ∧ 0 ≤ ((tk2 y z).fdiv 1024).fmod m ∧ ((tk2 y z).fdiv 1024).fmod m < m := by
  have e30 : (lots : Int) = 1073741824 := by decide
  rw [e30] at hz
  have e31 : (2 : Nat) ^ 31 = 2147483648 := by decide
  have e61 : (2 : Nat) ^ 61 = 2305843009213693952 := by decide
  have e62 : (2 : Nat) ^ 62 = 4611686018427387904 := by decide
  rw [e61] at hy
  have a1 : 0 ≤ tk1 y z := fm_lo (by decide)
  have a2 : tk1 y z < 2305843009213693921 := fm_hi (by decide)
  have b1 := fm_lo (x := y) (m := 65537) (by decide)
  have b2 := fm_hi (x := y) (m := 65537) (by decide)
  have z31 : z.natAbs < 2 ^ 31 := by rw [e31]; omega
  refine ⟨mulOk_of (n := 17) (m := 31) (by decide) (by decide) (by decide) z31 (by decide), powOk_of (n := 62) (by rw [e62]; omega) (by decide) (by decide), divOk_of (n := 61) (by decide) (by decide) (by decide) (by decide), divOk_of (n := 17) (by decide) (by decide) (by decide) (by decide), mulOk_of (n := 17) (m := 31) (by decide) (by decide) (by decide) z31 (by decide), powOk_of (n := 62) (by rw [e62]; omega) (by decide) (by decide), divOk_of (n := 61) (by decide) (by decide) (by decide) (by decide), divOk_of (n := 11) (by decide) (by decide) (by decide) (by decide), divOk_of (n := 2000) (by omega) (by decide) hm (by decide), fm_lo (by omega), fm_hi (by omega)⟩
/-- a truth that is known -/
theorem bqc {Q : Bool → MH → Prop} {b : Bool} {M : MH} (c : Bool) (e : b = c) (h : Q c M) : boolQ Q (.d (.bool b)) M := by
  subst e
  exact h
theorem bq {Q : Bool → MH → Prop} {b : Bool} {M : MH} (h : Q b M) : boolQ Q (.d (.bool b)) M := h
theorem sm0 : small 0 := small_of (by decide)
theorem sm1 : small 1 := small_of (by decide)
theorem sm2 : small 2 := small_of (by decide)
theorem sm3 : small 3 := small_of (by decide)
theorem sm4 : small 4 := small_of (by decide)
theorem sm5 : small 5 := small_of (by decide)
theorem sm6 : small 6 := small_of (by decide)
theorem sm7 : small 7 := small_of (by decide)
theorem sm8 : small 8 := small_of (by decide)
theorem sm9 : small 9 := small_of (by decide)
theorem sm10 : small 10 := small_of (by decide)
theorem sm11 : small 11 := small_of (by decide)
theorem sm12 : small 12 := small_of (by decide)
theorem sm13 : small 13 := small_of (by decide)
theorem sm14 : small 14 := small_of (by decide)
theorem sm15 : small 15 := small_of (by decide)
theorem sm16 : small 16 := small_of (by decide)
theorem sm17 : small 17 := small_of (by decide)
theorem sm18 : small 18 := small_of (by decide)
theorem sm19 : small 19 := small_of (by decide)
theorem sm20 : small 20 := small_of (by decide)
theorem sm21 : small 21 := small_of (by decide)
theorem sm22 : small 22 := small_of (by decide)
theorem sm23 : small 23 := small_of (by decide)
theorem sm25 : small 25 := small_of (by decide)
theorem sm26 : small 26 := small_of (by decide)
theorem sm27 : small 27 := small_of (by decide)
theorem sm28 : small 28 := small_of (by decide)
theorem sm24 : small 24 := small_of (by decide)
end Dl
set_option Elab.async false
set_option linter.all false
set_option maxRecDepth 100000
namespace Dl
open PySem PySem.Spec PyProof.Rows L2

theorem spLaw_len : ∀ ws M Q E, spLaw ws M Q E → ws.length = 1 := by rintro _ _ _ _ ⟨ns, rfl, _⟩; rfl
theorem rng_len {lo : Int} {n : Nat} : (rng lo n).length = n := by simp [rng]
theorem rng_get {lo : Int} {n j : Nat} {w : W} (h : (rng lo n)[j]? = some w) : j < n ∧ w = .d (.int (lo + j)) := by
  unfold rng at h
  rw [List.getElem?_map] at h
  by_cases hj : j < n
  · rw [List.getElem?_range hj] at h
    exact ⟨hj, (Option.some.inj h).symm⟩
  · rw [List.getElem?_eq_none (by simpa using hj)] at h
    cases h
/-- a cut between statements -/
theorem sq_cut {t u : TSd} {D : EndsD} {σ : SD} {M : MH} (P : SD → MH → Prop) (h : ∀ N : SD → MH → Prop, (∀ σ M, P σ M → N σ M) → t { D with nx := N } σ M) (k : ∀ σ M, P σ M → u D σ M) : tSq t u D σ M := h (u D) k
theorem mem_map_get {ds : List PyData} {j : Nat} {w : W} (h : (ds.map W.d)[j]? = some w) : ∃ d, w = .d d ∧ d ∈ ds := by
  obtain ⟨d, e, h2⟩ := getElem?_mapd h
  exact ⟨d, e, List.mem_of_getElem? h2⟩
theorem Pot.of {p : Addr} {n : Nat} {M M' : MH} (h : Pot p n M) (e : M' p = M p) : Pot p n M' := by
  obtain ⟨x, y, z, h1, r⟩ := h
  exact ⟨x, y, z, by rw [e]; exact h1, r⟩
theorem Pot.ne {p D : Addr} {n : Nat} {M : MH} (h : Pot p n M) (k : M D = none) : p ≠ D := by
  rintro rfl
  exact h.there k
theorem dataQ_of {Q : List PyData → MH → Prop} {ds : List PyData} {M : MH} (h : Q ds M) : dataQ Q (ds.map W.d) M := by
  unfold dataQ
  rw [allD_map]
  exact h
/-- a list of things drawn one by one from the pot at p, at most c draws each -/
theorem lcDraw {ws : List W} {kc : MH → Prop} {M1 : MH} {σ : SD} {vs : List Nat} {T : Tg} {te : TEd} {R0 : List PyData → MH → Prop} (p : Addr) (n c : Nat) (P : PyData → Prop) (hz : ws.length ≤ 16000000) (hkc : ∀ M, kc M) (hp : Pot p n M1)
    (he : ∀ (j : Nat) w, ws[j]? = some w → tgQ T w (wipeD σ vs) fun σ2 => ∀ M2, Pot p (n + c * j) M2 → Oth p M1 M2 → ∀ R : W → MH → Prop, (∀ x M3, P x → Pot p (n + c * j + c) M3 → Oth p M2 M3 → R (.d x) M3) → te σ2 M2 R)
    (q : ∀ ds M3, ds.length = ws.length → (∀ d ∈ ds, P d) → Pot p (n + c * ws.length) M3 → Oth p M1 M3 → R0 ds M3) :
    ∀ D, M1 D = none → ∃ I : Nat → List W → MH → Prop, I 0 [] (mset M1 D (.lst [])) ∧ (∀ j acc M2, I j acc M2 → kc M2 ∧ M2 D = some (.lst acc)) ∧
      (∀ j w acc M2, ws[j]? = some w → I j acc M2 → tgQ T w (wipeD σ vs) fun σ2 => tAll σ2 M2 fun b M4 => if b = true then te σ2 M4 fun x M5 => M5 D = some (.lst acc) ∧ acc.length < sizeLine ∧ I (j + 1) (acc ++ [x]) (mset M5 D (.lst (acc ++ [x]))) else I (j + 1) acc M4) ∧
      (∀ acc M2, I ws.length acc M2 → dataQ R0 acc (mdel M2 D)) := by
  intro D nD
  have pD := hp.ne nD
  have sz := sizeLine_eq
  refine ⟨fun j acc M2 => j ≤ ws.length ∧ M2 D = some (.lst acc) ∧ Pot p (n + c * j) M2 ∧ Oth p M1 M2 ∧ ∃ ds : List PyData, acc = ds.map W.d ∧ ds.length = j ∧ ∀ d ∈ ds, P d, ?_, ?_, ?_, ?_⟩
  · refine ⟨Nat.zero_le _, mset_same, (hp.mono (by omega)).of (mset_ne pD), ?_, [], rfl, rfl, by simp⟩
    intro b o nb e
    rw [mset_ne (by rintro rfl; rw [nD] at e; cases e)]
    exact e
  · rintro j acc M2 ⟨_, h, _⟩
    exact ⟨hkc _, h⟩
  · rintro j w acc M2 hj ⟨hle, hD, hpj, ho, ds, rfl, hl, hP⟩
    have hj2 : j < ws.length := (List.getElem?_eq_some_iff.mp hj).1
    have fin : ∀ σ2, (∀ M2, Pot p (n + c * j) M2 → Oth p M1 M2 → ∀ R : W → MH → Prop, (∀ x M3, P x → Pot p (n + c * j + c) M3 → Oth p M2 M3 → R (.d x) M3) → te σ2 M2 R) → te σ2 M2 fun x M5 => M5 D = some (.lst (ds.map W.d)) ∧ (ds.map W.d).length < sizeLine ∧ (j + 1 ≤ ws.length ∧ (mset M5 D (.lst (ds.map W.d ++ [x]))) D = some (.lst (ds.map W.d ++ [x])) ∧ Pot p (n + c * (j + 1)) (mset M5 D (.lst (ds.map W.d ++ [x]))) ∧ Oth p M1 (mset M5 D (.lst (ds.map W.d ++ [x]))) ∧ ∃ es : List PyData, ds.map W.d ++ [x] = es.map W.d ∧ es.length = j + 1 ∧ ∀ d ∈ es, P d) := by
      intro σ2 h
      refine h M2 hpj ho _ fun x M3 px pp oo => ?_
      refine ⟨oo D _ (fun e => pD e.symm) hD, by rw [List.length_map, hl]; omega, by omega, mset_same, ?_, ?_, ds ++ [x], by simp, by simp [hl], ?_⟩
      · refine (pp.mono ?_).of (mset_ne pD)
        rw [Nat.mul_add, Nat.mul_one]
        omega
      · intro b o nb e
        rw [mset_ne (by rintro rfl; rw [nD] at e; cases e)]
        exact oo b o nb (ho b o nb e)
      · intro d hd
        rcases List.mem_append.mp hd with h1 | h1
        · exact hP d h1
        · rw [List.mem_singleton.mp h1]; exact px
    have z := he j w hj
    cases T with
    | one jt => exact fin _ z
    | many js =>
      unfold tgQ at z ⊢
      simp only at z ⊢
      split at z
      · exact ⟨z.1, fin _ z.2⟩
      · exact ⟨z.1, fin _ z.2⟩
      · exact z.elim
  · rintro acc M2 ⟨_, hD, hpj, ho, ds, rfl, hl, hP⟩
    refine dataQ_of (q ds _ hl hP (hpj.of (mdel_ne pD)) ?_)
    intro b o nb e
    rw [mdel_ne (by rintro rfl; rw [nD] at e; cases e)]
    exact ho b o nb e
end Dl
set_option Elab.async false
set_option linter.all false
set_option maxRecDepth 100000
namespace Dl
open PySem PySem.Spec PyProof.Rows L2

section
variable {g : Gc} {i : Si} {k : Nat} {Y : Dx} {s : L2.St} {H : Hp} {σ : SD} {M : MH}
/-! ### slices -/
abbrev TOd := SD → MH → (Option Int → MH → Prop) → Prop
def semO1 (X : Cx) (e : Option Expr) : TO := fun s H Q => ∀ pins sh, Inv X pins s H sh → wpAny (model X.prog X.w) X.A (evalPart e X.env) (fun u s' => ∃ o H', Inv X pins s H' s' ∧ IsPart u o ∧ Q o H') X.xe sh
theorem po_sem {X : Cx} {e : Option Expr} : PO X e (semO1 X e) := ⟨fun pins s sh H Q I h => h pins s I⟩
theorem semO1_of {X : Cx} {e : Option Expr} {t : TO} (h : PO X e t) {s : L2.St} {H : Hp} {Q : Option Int → Hp → Prop} (q : t s H Q) : semO1 X e s H Q := fun pins sh I => h.run pins sh s H Q I q
structure QO (Y : Dx) (e : Option Expr) (t : TOd) : Prop where
  run : ∀ s H σ M Q, Std Y s H σ M → t σ M Q → semO1 Y.X e s H (fun o H' => ∃ M', Ext H M H' M' ∧ Dok Y.X.K H' M' ∧ Q o M')
def tNoO : TOd := fun _ M Q => Q none M
def tSmO (t : TEd) : TOd := fun σ M Q => t σ M fun w M1 => match w with | .d (.int n) => Q (some n) M1 | _ => False
theorem o_no : QO Y none tNoO := ⟨fun s H σ M Q S h => semO1_of po_none ⟨M, .refl _ _, S.d, h⟩⟩
theorem o_sm {e : Expr} {t : TEd} (he : QE Y e t) : QO Y (some e) (tSmO t) := by
  refine ⟨fun s H σ M Q S h => semO1_of (po_some pe_sem) (he.then_ S h fun v H1 w M1 e d r q => ?_)⟩
  split at q
  · exact ⟨_, r.int, M1, e, d, q⟩
  · exact q.elim
/-- the part of a list from lo to hi -/
def cut {α : Type} (xs : List α) (lo hi : Option Int) : List α := (xs.drop (HT.sIx xs.length 0 lo)).take (HT.sIx xs.length xs.length hi - HT.sIx xs.length 0 lo)
def rSlD : W → Option Int → Option Int → MH → (W → MH → Prop) → Prop := fun w lo hi M Q => match w with
  | .d (.tuple ds) => Q (.d (.tuple (cut ds lo hi))) M
  | .d (.str z) => small z.length ∧ Q (.d (.str (cutS z lo hi))) M
  | .d (.list ds) => Q (.d (.list (cut ds lo hi))) M
  | _ => False
theorem FzA.cut {K : PySem.W.Frag} {vs : List V} {ds : List PyData} (h : FzA K H M vs ds) (lo hi : Option Int) : FzA K H M (cutV vs lo hi) (cut ds lo hi) := by
  unfold cutV Dl.cut
  rw [h.length]
  exact (h.drop _).take _
theorem cut_whole {α : Type} (xs : List α) {lo hi : Option Int} (h : HT.sIx xs.length 0 lo = 0 ∧ HT.sIx xs.length xs.length hi = xs.length) : cut xs lo hi = xs := by
  unfold cut
  rw [h.1, h.2]
  simp
def tSlD (te : TEd) (tl th : TOd) : TEd := fun σ M Q => te σ M fun w M1 => tl σ M1 fun lo M2 => th σ M2 fun hi M3 => rSlD w lo hi M3 Q
/-- a part of a tuple, solid; the whole of it is itself -/
def rSlF (K : PySem.W.Frag) : V → Option Int → Option Int → Hp → VK → Prop := fun x lo hi H Q => ∃ a xs, x = .ref a ∧ SqT K H a xs ∧
  (HT.sIx xs.length 0 lo = 0 ∧ HT.sIx xs.length xs.length hi = xs.length → Q (.ref a) H) ∧ (¬ (HT.sIx xs.length 0 lo = 0 ∧ HT.sIx xs.length xs.length hi = xs.length) → ∀ p o, H p = none → Sol o → Q (.ref p) (upd H p (.frz o (.tup (cutV xs lo hi)))))
theorem sl_tupF {X : Cx} : SlR X (rSlF X.K) := by
  rintro pins t σ H _ v vl vu lo hi sl Q I rx hs pl pu ⟨a, xs, rfl, sq, whole, part⟩
  by_cases all : HT.sIx xs.length 0 lo = 0 ∧ HT.sIx xs.length xs.length hi = xs.length
  · exact sl_tupA pins t σ H _ v vl vu lo hi sl Q I rx hs pl pu ⟨a, xs, rfl, sq, whole, fun n => (n all).elim⟩
  obtain rfl : v = .ref a := rx
  obtain ⟨us, rv, tu, lim⟩ := I.tuple sq
  have size : us.toArray.size = xs.length := by rw [rv.length, List.size_toArray]
  refine ⟨_, _, PyProof.Rows.slot_tuple_getitem.lookup, tu.typeIs, HT.getItem_tuple_cut tu hs pl pu (size ▸ all) ?_ (size ▸ lim)⟩
  have z := ep_tup I ((rv.drop (HT.sIx xs.length 0 lo)).take (HT.sIx xs.length xs.length hi - HT.sIx xs.length 0 lo)) (Nat.le_trans (cutV_length xs lo hi) lim) (part all)
  simpa only [size] using z
def rSlX (K : PySem.W.Frag) : V → Option Int → Option Int → Hp → VK → Prop := fun x lo hi H Q => (rSlF K x lo hi H Q ∨ rSlS x lo hi H Q) ∨ rSlL K x lo hi H Q
theorem q_sl {e : Expr} {lo hi : Option Expr} {te : TEd} {tl th : TOd} {p2 pos : Pos} (he : QE Y e te) (hl : QO Y lo tl) (hh : QO Y hi th) : QE Y (.Subscript e (.Slice lo hi none p2) pos) (tSlD te tl th) := by
  refine ⟨fun s H σ M Q S h => semE_of (pe_slice ((sl_tupF.or sl_str).or sl_list) pe_sem po_sem po_sem) (he.then_ S h fun v H1 w M1 e d r q => fun pins sh I => ?_)⟩
  refine thn (hl.run _ _ _ _ _ (S.go e d) q pins sh I) fun u s1 ⟨o, H2, I2, p, M2, e2, d2, q2⟩ => ⟨o, H2, I2, p, fun pins sh I => ?_⟩
  refine thn (hh.run _ _ _ _ _ ((S.go e d).go e2 d2) q2 pins sh I) fun u s1 ⟨o3, H3, I3, p3, M3, e3, d3, q3⟩ => ⟨o3, H3, I3, p3, ?_⟩
  have S3 := ((S.go e d).go e2 d2).go e3 d3
  have r3 := (r.ext e2).ext e3
  have tr : ∀ {v : V} {H' : Hp}, up Y H3 M3 Q v H' → up Y H M Q v H' := fun z => z.trans ((e.trans e2).trans e3)
  unfold rSlD at q3
  split at q3
  · obtain ⟨p, xs, rfl, h1, h2⟩ := r3.tup
    refine .inl (.inl ⟨p, xs, rfl, h1.sq, fun hw => ?_, fun _ a ob n so => tr (up_tup S3 n so (h2.cut o o3) q3)⟩)
    rw [h2.length] at hw
    rw [cut_whole _ hw] at q3
    exact tr (S3.here (w := .d (.tuple _)) (Fz.tup h1 h2) q3)
  · exact .inl (.inr ⟨_, r3.str, q3.1, tr (S3.here (wStr _) q3.2)⟩)
  · obtain ⟨p, xs, rfl, h1, h2⟩ := r3.lst
    exact .inr ⟨p, xs, rfl, SqL.of h1.1, fun a n => tr (up_lst S3 n (h2.cut o o3) q3)⟩
  · exact q3.elim
end
end Dl
set_option Elab.async false
set_option linter.all false
set_option maxRecDepth 100000
namespace Dl
open PySem PySem.Spec PyProof.Rows L2

section
variable {g : Gc} {i : Si} {k : Nat} {Y : Dx}
/-! ### methods of built-in types -/
abbrev RMd := W → List W → MH → (W → MH → Prop) → Prop
def tMet (ty : W → MH → Prop) (r : RMd) (to : TEd) (t : TAd) : TEd := fun σ M Q => to σ M fun w M1 => ty w M1 ∧ t σ M1 fun ws M2 => r w ws M2 Q
structure MetD (Y : Dx) (T : String) (id : String) (name : Str) (ty : W → MH → Prop) (rD : RMd) : Prop where
  go : ∃ r, PlainAttrs T ∧ Slot T name id ∧ typeOf (.builtin id) = pure (.type "method_descriptor") ∧ MtR Y.X id r ∧ (∀ {s : L2.St} {H : Hp} {σ : SD} {M : MH} {x : V} {w : W}, Std Y s H σ M → Wv Y.X.K H M x w → ty w M → tyV Y.X.K T x H) ∧
    ∀ {s : L2.St} {H : Hp} {σ : SD} {M : MH} {x : V} {w : W} {vs : List V} {ws : List W} {Q : W → MH → Prop} {R : VK}, Std Y s H σ M → Wv Y.X.K H M x w → WvA Y.X.K H M vs ws → rD w ws M Q → (∀ v H', up Y H M Q v H' → R v H') → r x vs H R
theorem q_met {T id : String} {name : Str} {ty : W → MH → Prop} {rD : RMd} {o e : Expr} {es : List Expr} {to : TEd} {t : TAd} {apos cpos : Pos} (m : MetD Y T id name ty rD) (ho : QE Y o to) (ha : QA Y (e :: es) t)
    (hbase : attributeBase o name Y.X.env (eval o Y.X.env) = eval o Y.X.env := by rfl)
    (hfew : ((backTo cpos (starEach (e :: es) Y.X.env)).all (fun x => !x.1) && (backToKw cpos (keywordEach [] Y.X.env)).all (fun x => x.1.isSome) && decide ((e :: es).length + ([] : List Keyword).length + (if ([] : List Keyword).isEmpty then 0 else 1) < 30)) = true := by rfl)
    (hline : (apos.endLine == cpos.line) = true := by rfl) (hs : starEach (e :: es) Y.X.env = (false, eval e Y.X.env) :: starEach es Y.X.env := by rfl) (hp : (backTo cpos (starEach es Y.X.env)).any (·.1) = false := by rfl) :
    QE Y (.Call (.Attribute o name apos) (e :: es) [] cpos) (tMet ty rD to t) := by
  obtain ⟨r, pa, sl, hty, hm, h1, h2⟩ := m.go
  refine ⟨fun s H σ M Q S h => semE_of (pe_bm pa sl hty hm pe_sem pa_sem hbase hfew hline hs hp) (ho.then_ S h fun x H1 w M1 e1 d1 r1 q => ⟨h1 (S.go e1 d1) r1 q.1, fun pos pins sh I => ?_⟩)⟩
  refine thn (ha.run _ _ _ _ _ (S.go e1 d1) q.2 pos pins sh I) fun us s2 ⟨vs, H2, I2, ru, ws, M2, e2, d2, r2, q2⟩ => ⟨vs, H2, I2, ru, ?_⟩
  exact h2 ((S.go e1 d1).go e2 d2) (r1.ext e2) r2 q2 fun v H' z => z.trans (e1.trans e2)
theorem q_met0 {T id : String} {name : Str} {ty : W → MH → Prop} {rD : RMd} {o : Expr} {to : TEd} {apos cpos : Pos} (m : MetD Y T id name ty rD) (ho : QE Y o to)
    (hbase : attributeBase o name Y.X.env (eval o Y.X.env) = eval o Y.X.env := by rfl) (hline : (apos.endLine == cpos.line) = true := by rfl) :
    QE Y (.Call (.Attribute o name apos) [] [] cpos) (tMet ty rD to tNilA) := by
  obtain ⟨r, pa, sl, hty, hm, h1, h2⟩ := m.go
  refine ⟨fun s H σ M Q S h => semE_of (pe_bm0 pa sl hty hm pe_sem hbase hline) (ho.then_ S h fun x H1 w M1 e1 d1 r1 q => ⟨h1 (S.go e1 d1) r1 q.1, ?_⟩)⟩
  exact h2 (S.go e1 d1) r1 (ws := []) .nil q.2 fun v H' z => z.trans e1
/-- .. of a list that may change -/
def tyMut : W → MH → Prop := fun w M => match w with | .ref p => ∃ ws, M p = some (.lst ws) | _ => False
theorem tyMut_is {s : L2.St} {H : Hp} {σ : SD} {M : MH} {x : V} {w : W} (S : Std Y s H σ M) (r : Wv Y.X.K H M x w) (h : tyMut w M) : tyV Y.X.K "list" x H := by
  unfold tyMut at h
  split at h
  · obtain ⟨ws, hm⟩ := h
    obtain rfl := (show x = _ from r)
    obtain ⟨xs, h1, h2⟩ := S.d _ _ hm
    exact .inl ⟨rfl, xs, SqL.of h1⟩
  · exact h.elim
def rApp : RMd := fun w us M Q => match w, us with
  | .ref p, [u] => ∃ ws, M p = some (.lst ws) ∧ ws.length < sizeLine ∧ Q (.d .none) (mset M p (.lst (ws ++ [u])))
  | _, _ => False
theorem WvA.append {K : PySem.W.Frag} {H : Hp} {M : MH} {xs ys : List V} {ws us : List W} (h : WvA K H M xs ws) (k : WvA K H M ys us) : WvA K H M (xs ++ ys) (ws ++ us) := by
  induction h with
  | nil => exact k
  | cons r _ ih => exact .cons r ih
theorem m_append : MetD Y "list" "list.append" "append" tyMut rApp := by
  refine ⟨rAppend, F.plainAttrs_list, F.slot_list_append, F.type_list_append, mt_append, fun S r h => tyMut_is S r h, ?_⟩
  intro s H σ M x w vs ws Q R S r rs q k
  unfold rApp at q
  split at q
  · obtain ⟨xs, hm, hz, q⟩ := q
    obtain rfl := (show x = _ from r)
    obtain ⟨ys, h1, h2⟩ := S.d _ _ hm
    obtain ⟨v, rfl, rv⟩ := rs.one
    exact ⟨_, ys, v, rfl, rfl, h1, by rw [Paired.length h2]; exact hz, k _ _ (up_set S hm (h2.append (.cons rv .nil)) wNone q)⟩
  · exact q.elim
end
end Dl
set_option Elab.async false
set_option linter.all false
set_option maxRecDepth 100000
namespace HT
open PySem PySem.Spec PyProof.Rows
section
variable {prog : Program} {w : World} {A : Around} {E : Value → Shared → Prop} {s : Shared}
theorem rv_pick (xs : Array Value) : ((List.range xs.size).filterMap fun (m : Nat) => xs[(((xs.size : Nat) : Int) - 1 + (m : Int) * (-1)).toNat]?).toArray = xs.toList.reverse.toArray := by
  have cg : ∀ (l : List Nat) (f g : Nat → Option Value), (∀ m ∈ l, f m = g m) → l.filterMap f = l.filterMap g := by
    intro l f g h
    induction l with
    | nil => rfl
    | cons a l ih => rw [List.filterMap_cons, List.filterMap_cons, h a List.mem_cons_self, ih fun m hm => h m (List.mem_cons_of_mem _ hm)]
  have e : (List.range xs.size).filterMap (fun (m : Nat) => xs[(((xs.size : Nat) : Int) - 1 + (m : Int) * (-1)).toNat]?) = (List.range xs.size).filterMap (fun m => xs.toList.reverse[m]?) := by
    apply cg
    intro m hm
    have hm' : m < xs.size := List.mem_range.mp hm
    rw [List.getElem?_reverse (by simpa using hm'), Array.getElem?_toList]
    congr 1
    rw [Array.length_toList]
    omega
  have full : ∀ (l : List Value), (List.range l.length).filterMap (fun m => l[m]?) = l := by
    intro l
    induction l with
    | nil => rfl
    | cons a l ih =>
      rw [List.length_cons, List.range_succ_eq_map, List.filterMap_cons, List.filterMap_map]
      simp only [List.getElem?_cons_zero]
      congr 1
  have := full xs.toList.reverse
  rw [List.length_reverse, Array.length_toList] at this
  rw [e, this]
theorem rv_applied {sl : Addr} {u : Tok} {n : Nat} {Q : Int × Int × Nat → Shared → Prop} (hs : s.heap.IsSliceOf sl .none .none (.int (-1) u)) (h : Q (((n : Nat) : Int) - 1, -1, n) s) :
    wpAny (model prog w) A (Builtin.Slice.sliceApplied (.ref sl) (pure (n : Int))) Q E s := by
  obtain ⟨os, hos, hcs, hds⟩ := id hs
  unfold Builtin.Slice.sliceApplied Builtin.Slice.sliceFields
  refine wpAny_bind (wpAny_bind (wpAny_field hos hds (x := .none) rfl (wpAny_bind (wpAny_field hos hds (x := .none) rfl (wpAny_bind (wpAny_field hos hds (x := .int (-1) u) rfl (wpAny_pure ?_)))))))
  refine wpAny_bind (slicePart_int ?_)
  show wpAny _ _ (if ((-1 : Int) == 0) = true then _ else _) _ _ s
  rw [if_neg (by decide)]
  refine wpAny_bind (slicePart_none (wpAny_bind (slicePart_none (wpAny_bind (wpAny_pure ?_)))))
  show wpAny _ _ (pure (((n : Nat) : Int) - 1, (-1 : Int), Builtin.Slice.slicePlaces (((n : Nat) : Int) - 1) (-1) (-1))) _ _ s
  have e : Builtin.Slice.slicePlaces (((n : Nat) : Int) - 1) (-1) (-1) = n := by
    unfold Builtin.Slice.slicePlaces
    rw [if_neg (by decide)]
    split
    · rw [show (-(-1) : Int) = 1 by decide, Int.ediv_one]
      omega
    · omega
  rw [e]
  exact wpAny_pure h
theorem rv_get {t sl : Addr} {items : Array Value} {u : Tok} {Q : Value → Shared → Prop} (ht : IsTup s.heap t items) (hs : s.heap.IsSliceOf sl .none .none (.int (-1) u))
    (h : Q (.ref s.heap.objs.size) { s with heap := s.heap.push { cls := .type "tuple", data := .seq items.toList.reverse.toArray } }) (hz : items.size ≤ sizeLine) : wpAny (model prog w) A (getItem (.ref t) (.ref sl)) Q E s := by
  have fit : sizeOk (.seq items.toList.reverse.toArray) := by
    show items.toList.reverse.toArray.size ≤ sizeLine
    simpa using hz
  have ty : s.TypeIs (.ref sl) "slice" := by
    obtain ⟨os, hos, hcs, _⟩ := id hs
    exact ⟨os, hos, hcs⟩
  unfold getItem
  try with_reducible refine wpAny_holding ?_
  first | refine wpAny_bind (wpAny_pure ?_) | skip
  refine wpAny_bind (wpAny_sequenceKey ht.typeIs (by decide) (wpAny_bind (wpAny_callSpecial?_slot (name := Str.ofString "__getitem__") ht.typeIs PyProof.Rows.slot_tuple_getitem (wpAny_call_entry PyProof.Rows.slot_tuple_getitem ht.typeIs entry_tuple_getitem ?_ (args_tuple_getitem _ _)))))
  show wpAny _ _ (Builtin.Tuple.tupleItemsOf (.ref t) >>= _) _ _ s
  refine wpAny_bind (tupleItemsOf_ ht (wpAny_bind (wpAny_typeOf ty ?_)))
  rw [if_pos (by decide)]
  refine wpAny_bind (rv_applied hs ?_)
  show wpAny _ _ (if ((((items.size : Nat) : Int) - 1) == 0 && (-1 : Int) == 1 && items.size == items.size) = true then _ else _) _ _ s
  rw [if_neg (by simp), rv_pick]
  first
    | exact wpAny_bind (m := Builtin.Tuple.tupleExact _) (wpAny_newObj_type (wpAny_pure ⟨_, rfl, wpAny_pure h⟩) fit)
    | exact wpAny_bind (m := Builtin.Tuple.tupleExact _) (wpAny_newObj_type (wpAny_bind (wpAny_pure (wpAny_pure ⟨_, rfl, wpAny_pure h⟩))) fit)
    | exact wpAny_bind (wpAny_bind (m := Builtin.Tuple.tupleExact _) (wpAny_newObj_type (wpAny_pure (wpAny_pure ⟨_, rfl, wpAny_pure h⟩)) fit))
    | exact wpAny_bind (wpAny_bind (m := Builtin.Tuple.tupleExact _) (wpAny_newObj_type (wpAny_pure ⟨_, rfl, wpAny_pure h⟩) fit))
end
end HT
namespace Dl
open PySem PySem.Spec PyProof.Rows L2
section
variable {g : Gc} {i : Si} {k : Nat} {Y : Dx}
theorem FzA.reverse {K : PySem.W.Frag} {H : Hp} {M : MH} {vs : List V} {ds : List PyData} (h : FzA K H M vs ds) : FzA K H M vs.reverse ds.reverse := by
  induction ds generalizing vs with
  | nil => cases h; exact .nil
  | cons d ds ih =>
    cases h with
    | cons r t =>
      rw [List.reverse_cons, List.reverse_cons]
      exact (ih t).append (.cons r .nil)
/-- t[::n] of a tuple, n = -1 -/
def tRev (te tn : TEd) : TEd := fun σ M Q => te σ M fun w M1 => tn σ M1 fun n M2 => match w, n with | .d (.tuple ds), .d (.int j) => j = -1 ∧ Q (.d (.tuple ds.reverse)) M2 | _, _ => False
theorem tRev_get {w n : W} {M : MH} {Q : W → MH → Prop} (h : match w, n with | .d (.tuple ds), .d (.int j) => j = -1 ∧ Q (.d (.tuple ds.reverse)) M | _, _ => False) : ∃ ds, w = .d (.tuple ds) ∧ n = .d (.int (-1)) ∧ Q (.d (.tuple ds.reverse)) M := by
  split at h
  · obtain ⟨rfl, h⟩ := h
    exact ⟨_, rfl, rfl, h⟩
  · exact h.elim
theorem q_rev {e n : Expr} {te tn : TEd} {p2 pos : Pos} (he : QE Y e te) (hn : QE Y n tn) : QE Y (.Subscript e (.Slice none none (some n) p2) pos) (tRev te tn) := by
  refine ⟨fun s H σ M Q S h pins sh I => ?_⟩
  refine Subscript_ (thn (he.run _ _ _ _ _ S h pins sh I) fun v s1 ⟨x, H1, I1, r1, w, M1, e1, d1, rw1, q⟩ => ?_)
  refine wpAny_Slice ?_
  rw [evalPart_none]
  refine wpAny_pure (wpAny_pure ?_)
  rw [evalPart_some]
  refine thn (hn.run _ _ _ _ _ (S.go e1 d1) q pins s1 I1) fun u s2 ⟨y, H2, I2, r2, w2, M2, e2, d2, rw2, q2⟩ => ?_
  obtain ⟨ds, rfl, rfl, q3⟩ := tRev_get q2
  obtain ⟨p, xs, rfl, h1, h2⟩ := (rw1.ext e2).tup
  cases r1
  cases (show y = .int (-1) from rw2.int)
  obtain ⟨tk, rfl⟩ := r2
  obtain ⟨its, rv, ht, hz⟩ := I2.tuple h1.sq
  have I3 : Inv Y.X pins s H2 { s2 with heap := s2.heap.push { cls := .type "slice", data := .fields #[.none, .none, .int (-1) tk] } } := I2.kept (t' := s2.toks) fun b o q => Heap.get?_push_of_some _ q
  have ht3 := ht.push { cls := .type "slice", data := .fields #[.none, .none, .int (-1) tk] }
  refine tail_any (ops := [.ref p, .ref s2.heap.objs.size]) ht3.typeIs PyProof.Rows.slot_tuple_getitem.lookup (HT.rv_get ht3 (Heap.IsSliceOf.new ..) ?_ (by rw [List.size_toArray, ← rv.length]; exact hz)) (by with_unfolding_all rfl)
  have S3 := (S.go e1 d1).go e2 d2
  obtain ⟨x, H4, I4, r4, q4⟩ := ep_tup I3 rv.reverse (by rw [List.length_reverse]; exact hz) (R := fun x H4 => up Y H M Q x H4) fun p ob n so => (up_tup (Q := Q) S3 n so h2.reverse q3).trans (e1.trans e2)
  exact ⟨x, H4, I4, r4, q4⟩
end
end Dl
set_option Elab.async false
set_option linter.all false
set_option maxRecDepth 100000
namespace Dl
open PySem PySem.Spec PyProof.Rows L2

/-! ### constants of the text, looked at in the fragment -/
mutual
def chkD (K : PySem.W.Frag) : Nat → Value → PyData → Bool
  | _, .none, .none => true
  | _, .bool a, .bool b => a == b
  | _, .int a _, .int b => a == b
  | _, .str a _, .str b => a == b
  | f + 1, .ref a, .tuple ds => match K.lookup a with
    | some ⟨.type T, none, .seq its _, _⟩ => T == "tuple" && decide (its.size ≤ sizeLine) && chkA K f its.toList ds
    | _ => false
  | _, _, _ => false
def chkA (K : PySem.W.Frag) : Nat → List Value → List PyData → Bool
  | _, [], [] => true
  | f + 1, u :: us, d :: ds => chkD K f u d && chkA K f us ds
  | _, _, _ => false
end
mutual
theorem chkD_ok (K : PySem.W.Frag) : ∀ (f : Nat) (u : Value) (d : PyData), chkD K f u d = true → ∃ v, RelV v u ∧ ∀ H M, Fz K H M v d
  | f, u, .none, h => by
    cases f <;> cases u <;> first | exact ⟨.non, rfl, fun _ _ => .non⟩ | (simp only [chkD] at h; cases h)
  | f, u, .bool b, h => by
    cases f <;> cases u <;> first | (simp only [chkD, beq_iff_eq] at h; subst h; exact ⟨.bl _, rfl, fun _ _ => .bl _⟩) | (simp only [chkD] at h; cases h)
  | f, u, .int b, h => by
    cases f <;> cases u <;> first | (simp only [chkD, beq_iff_eq] at h; subst h; exact ⟨.int _, ⟨_, rfl⟩, fun _ _ => .int _⟩) | (simp only [chkD] at h; cases h)
  | f, u, .str b, h => by
    cases f <;> cases u <;> first | (simp only [chkD, beq_iff_eq] at h; subst h; exact ⟨.str _, ⟨_, rfl⟩, fun _ _ => .str _⟩) | (simp only [chkD] at h; cases h)
  | f, u, .list _, h => by cases f <;> cases u <;> (simp only [chkD] at h; cases h)
  | f, u, .dict _, h => by cases f <;> cases u <;> (simp only [chkD] at h; cases h)
  | 0, u, .tuple _, h => by cases u <;> (simp only [chkD] at h; cases h)
  | f + 1, u, .tuple ds, h => by
    cases u with
    | ref a =>
      simp only [chkD] at h
      split at h
      · rename_i T its n sl hl
        simp only [Bool.and_eq_true, beq_iff_eq, decide_eq_true_eq] at h
        obtain ⟨⟨hT, hz⟩, hA⟩ := h
        subst hT
        obtain ⟨vs, r, q⟩ := chkA_ok K f its.toList ds hA
        exact ⟨.ref a, rfl, fun H M => .tup (.inr ⟨_, its, n, hl, rfl, rfl, rfl, hz, r⟩) (q H M)⟩
      · cases h
    | _ => simp only [chkD] at h; cases h
theorem chkA_ok (K : PySem.W.Frag) : ∀ (f : Nat) (us : List Value) (ds : List PyData), chkA K f us ds = true → ∃ vs, Vals vs us ∧ ∀ H M, FzA K H M vs ds
  | _, [], [], _ => ⟨[], .nil, fun _ _ => .nil⟩
  | 0, [], _ :: _, h => by simp only [chkA] at h; cases h
  | _ + 1, [], _ :: _, h => by simp only [chkA] at h; cases h
  | 0, _ :: _, [], h => by simp only [chkA] at h; cases h
  | _ + 1, _ :: _, [], h => by simp only [chkA] at h; cases h
  | 0, _ :: _, _ :: _, h => by simp only [chkA] at h; cases h
  | f + 1, u :: us, d :: ds, h => by
    simp only [chkA, Bool.and_eq_true] at h
    obtain ⟨v, r, q⟩ := chkD_ok K f u d h.1
    obtain ⟨vs, rs, qs⟩ := chkA_ok K f us ds h.2
    exact ⟨v :: vs, .cons r rs, fun H M => .cons (q H M) (qs H M)⟩
end
theorem cst_of {g : Gc} {x : Str} {d : PyData} {f : Nat} {u : Value} (m : g.mg x = some u) (c : chkD g.K f u d = true) : Cst g x d := by
  obtain ⟨v, r, q⟩ := chkD_ok _ f u d c
  exact ⟨v, u, m, r, q⟩

section
variable {g : Gc} {i : Si} {k : Nat} {Y : Dx}
/-! ### texts: order, within; a tuple some times -/
def rLeS : R2d := fun a b M Q => match a, b with
  | .d (.str x), .d (.str y) => Q (.d (.bool (!decide (y.cps.toList < x.cps.toList)))) M
  | _, _ => False
theorem o_leS : Op2 Y (compareOp .LtE) rLeS := by
  intro s H σ M x y a b Q S rx ry q
  unfold rLeS at q
  split at q
  · exact semO_of op_le_str ⟨_, _, rx.str, ry.str, S.here (wBool _) q⟩
  · exact q.elim
def rLtS : R2d := fun a b M Q => match a, b with
  | .d (.str x), .d (.str y) => Q (.d (.bool (decide (x.cps.toList < y.cps.toList)))) M
  | _, _ => False
theorem o_ltS : Op2 Y (compareOp .Lt) rLtS := by
  intro s H σ M x y a b Q S rx ry q
  unfold rLtS at q
  split at q
  · exact semO_of op_lt_str ⟨_, _, rx.str, ry.str, S.here (wBool _) q⟩
  · exact q.elim
def within (x y : Str) : Bool := !(Builtin.Str.occurrences y x 0 y.length 1).isEmpty
def rInS : R2d := fun a b M Q => match a, b with
  | .d (.str x), .d (.str y) => Q (.d (.bool (within x y))) M
  | _, _ => False
theorem o_inS : Op2 Y (compareOp .In) rInS := by
  intro s H σ M x y a b Q S rx ry q
  unfold rInS at q
  split at q
  · exact semO_of op_in_str ⟨_, _, rx.str, ry.str, S.here (wBool _) q⟩
  · exact q.elim
theorem within_one (c : Nat) (y : Str) : within ⟨#[c]⟩ y = decide (c ∈ y.cps.toList) := StrLaws.found_one y c
/-- t * n, n > 1: a solid tuple -/
def rRepF (K : PySem.W.Frag) : R2 := fun x y H Q => ∃ l k xs, x = .ref l ∧ y = .int k ∧ SqT K H l xs ∧ xs ≠ [] ∧ 2 ≤ k ∧ k ≤ 1000 ∧ xs.length ≤ 1000 ∧ ∀ p o, H p = none → Sol o → Q (.ref p) (upd H p (.frz o (.tup (List.replicate k.toNat xs).flatten)))
theorem op_repF {X : Cx} : OpR X (binaryOp .Mult) (rRepF X.K) := by
  rintro pins s σ H _ _ v u Q I rx ry ⟨l, k, xs, rfl, rfl, sq, ne, k1, k2, few, q⟩
  obtain rfl : v = .ref l := rx
  obtain ⟨t, rfl⟩ := ry
  obtain ⟨us, rv, ⟨ob, at', cl, n, dt⟩, lim⟩ := I.tuple sq
  obtain ⟨c, dd, da, sl⟩ := ob
  cases (show c = _ from cl)
  cases (show da = _ from dt)
  have sz : us.toArray.size = xs.length := by rw [rv.length, List.size_toArray]
  have pos : 0 < xs.length := List.length_pos_iff.mpr ne
  have full : us.toArray.isEmpty = false := by
    rw [Array.isEmpty, decide_eq_false_iff_not, sz]
    omega
  have prod : k.toNat * xs.length ≤ 1000000 := Nat.mul_le_mul (show k.toNat ≤ 1000 by omega) few
  have prodI : ((us.toArray.size : Nat) : Int) * k ≤ 1000000 := by
    rw [sz, show k = ((k.toNat : Nat) : Int) by omega, ← Int.natCast_mul, Nat.mul_comm]
    omega
  have line := sizeLine_eq
  have out : (List.replicate k.toNat us).flatten.length ≤ sizeLine := by rw [PyProof.Rows.lm_len_rep_flat, ← rv.length]; omega
  have d0 : (decide (k < -(2 ^ 63)) || decide (k ≥ 2 ^ 63)) = false := by simp; omega
  have d1 : (us.toArray.isEmpty || k == 1) = false := by rw [full]; simp; omega
  have d2 : (decide (k ≤ 0) || us.toArray.isEmpty) = false := by rw [full]; simp; omega
  have d4 : Builtin.Tuple.tupleTooMany (((us.toArray.size : Nat) : Int) * k) = false := by
    unfold Builtin.Tuple.tupleTooMany
    rw [line]
    simp only [decide_eq_false_iff_not]
    omega
  have body := tuple_mulW l us.toArray n dd sl k t d0 d1 d2 (by omega) d4 (by rw [size_rep, List.size_toArray]; exact out)
  refine wpAny_binaryOp_repeat_ref (T := "tuple") (U := "int") (by decide) ⟨_, at', rfl⟩ (fun s' => typeIs_int s' k t) noFill_tuple_mul PySem.F.fills_int_mul PySem.F.slot_int_rmul repeat_tuple PySem.F.slot_int_index.lookup
    (call_meets PySem.F.slot_int_rmul (typeIs_int s k t) PySem.F.entry_int_rmul (PySem.F.args_int_rmul_2 _ _) (int_rmul_tuple k t l us.toArray n dd sl) ⟨at', rfl, ⟨_, at', rfl⟩, call_meets PySem.F.slot_tuple_mul ⟨_, at', rfl⟩ PySem.F.entry_tuple_mul (PySem.F.args_tuple_mul_2 _ _) body ⟨at', ?_⟩⟩)
  rw [size_rep]
  exact ep_tup I (rv.rep k.toNat) (by rw [PyProof.Rows.lm_len_rep_flat]; omega) q
def rRepD : R2d := fun a b M Q => match a, b with
  | .d (.tuple ds), .d (.int n) => ds ≠ [] ∧ 2 ≤ n ∧ n ≤ 1000 ∧ ds.length ≤ 1000 ∧ Q (.d (.tuple (List.replicate n.toNat ds).flatten)) M
  | _, _ => False
theorem FzA.rep {K : PySem.W.Frag} {H : Hp} {M : MH} {vs : List V} {ds : List PyData} (h : FzA K H M vs ds) : ∀ n : Nat, FzA K H M (List.replicate n vs).flatten (List.replicate n ds).flatten
  | 0 => .nil
  | n + 1 => by
    rw [List.replicate_succ, List.replicate_succ, List.flatten_cons, List.flatten_cons]
    exact h.append (FzA.rep h n)
theorem o_rep : Op2 Y (binaryOp .Mult) rRepD := by
  intro s H σ M x y a b Q S rx ry q
  unfold rRepD at q
  split at q
  · obtain ⟨p, xs, rfl, h1, h2⟩ := rx.tup
    obtain ⟨q1, q2, q3, q4, q5⟩ := q
    refine semO_of op_repF ⟨p, _, xs, rfl, ry.int, h1.sq, ?_, q2, q3, by rw [h2.length]; exact q4, fun r ob n so => up_tup S n so (h2.rep _) q5⟩
    rintro rfl
    cases h2
    exact q1 rfl
  · exact q.elim
/-- a way that is not gone -/
def tNever : TSd := fun _ _ _ => False
theorem s_raise {a b : Option Expr} {pos : Pos} : QS Y (.Raise a b pos) tNever := ⟨fun _ _ _ _ _ _ h => h.elim⟩
/-- a def that is not called at this depth -/
def spNo : SpD := fun _ _ _ _ => False
theorem df_no {g : Gc} {x : Str} {st : Stmt} {ps : List Str} (P : Pl g x st) (hsy : SysOk g.base) {i : Si} (Sc : FnScope i.N ps (defScope st)) (ok : ScOk i (defScope st))
    (hb : ∀ (kV doc pm : Value) (an : Option Addr) (cdv ct : Value) (us : List Value), us.length = ps.length → bindArgs (PySem.W.fnOf x x (defArgs st) (defBody st) (defScope st) .none kV doc pm an cdv ct) ⟨us, []⟩ = pure (ps.zip us))
    (body : ∃ t, ∀ Y : Dx, Fm g i 0 Y → QSs Y (defBody st) t) : Df g 1 x ps spNo i.hot :=
  df_of (k := 0) P hsy Sc ok hb (fun _ _ _ _ h => h.elim) fun _ _ _ _ _ _ _ h => h.elim
end
end Dl
set_option Elab.async false
set_option linter.all false
set_option maxRecDepth 100000
/-! sizes of data -/
namespace Dl
open PySem PySem.Spec PyProof.Rows L2
mutual
/-- leaves that are not too great -/
def okL (B : Nat) : PyData → Bool
  | .none | .bool _ => true
  | .int i => decide (i.natAbs < B)
  | .str x => PyData.strOk x
  | .list xs | .tuple xs => okLA B xs
  | .dict kvs => kvs.isEmpty
def okLA (B : Nat) : List PyData → Bool
  | [] => true
  | x :: xs => okL B x && okLA B xs
end
theorem okLA_all {B : Nat} : ∀ xs : List PyData, okLA B xs = xs.all (okL B)
  | [] => rfl
  | x :: xs => by rw [okLA, okLA_all xs]; rfl
theorem okLA_iff {B : Nat} {xs : List PyData} : okLA B xs = true ↔ ∀ x ∈ xs, okL B x = true := by rw [okLA_all, List.all_eq_true]
mutual
theorem okL_mono {B C : Nat} (h : B ≤ C) : ∀ x : PyData, okL B x = true → okL C x = true
  | .none, _ => rfl
  | .bool _, _ => rfl
  | .int i, q => by simp only [okL, decide_eq_true_eq] at q ⊢; omega
  | .str _, q => q
  | .list xs, q => okLA_mono h xs q
  | .tuple xs, q => okLA_mono h xs q
  | .dict _, q => q
theorem okLA_mono {B C : Nat} (h : B ≤ C) : ∀ xs : List PyData, okLA B xs = true → okLA C xs = true
  | [], _ => rfl
  | x :: xs, q => by
    simp only [okLA, Bool.and_eq_true] at q ⊢
    exact ⟨okL_mono h x q.1, okLA_mono h xs q.2⟩
end
theorem int_show_le {i : Int} {n : Nat} (h : i.natAbs < 2 ^ n) (h0 : 0 < n) : (PyData.shown (.int i)).length ≤ n + 1 := by
  show (Str.ofString (toString i)).length ≤ _
  rw [PySem.ofString_length]
  exact int_text_length_le h0 (PySem.Flt.log2_lt_of h0 h)
mutual
theorem okL_show {B : Nat} (h : B ≤ 2 ^ 198) : ∀ x : PyData, okL B x = true → x.showable = true ∧ x.leavesShort 199 = true
  | .none, _ => ⟨rfl, rfl⟩
  | .bool _, _ => ⟨rfl, rfl⟩
  | .int i, q => by
    simp only [okL, decide_eq_true_eq] at q
    have q' := Nat.lt_of_lt_of_le q h
    exact ⟨by simp only [PyData.showable, decide_eq_true_eq]; exact Nat.lt_trans (log2_lt (by decide) q') (by decide), by simp only [PyData.leavesShort, decide_eq_true_eq]; exact int_show_le q' (by decide)⟩
  | .str x, q => by
    refine ⟨rfl, ?_⟩
    simp only [okL, PyData.strOk, Array.all_eq_true] at q
    simp only [PyData.leavesShort, List.all_eq_true, decide_eq_true_eq]
    intro c hc
    obtain ⟨i, hi, rfl⟩ := Array.mem_iff_getElem.mp (Array.mem_toList_iff.mp hc)
    have := q i hi
    simp at this
    exact Nat.lt_trans this (by decide)
  | .list xs, q => okLA_show h xs q
  | .tuple xs, q => okLA_show h xs q
  | .dict [], q => ⟨rfl, rfl⟩
theorem okLA_show {B : Nat} (h : B ≤ 2 ^ 198) : ∀ xs : List PyData, okLA B xs = true → PyData.showableAll xs = true ∧ PyData.leavesShortAll 199 xs = true
  | [], _ => ⟨rfl, rfl⟩
  | x :: xs, q => by
    simp only [okLA, Bool.and_eq_true] at q
    obtain ⟨a, b⟩ := okL_show h x q.1
    obtain ⟨c, d⟩ := okLA_show h xs q.2
    exact ⟨by simp [PyData.showableAll, a, c], by simp [PyData.leavesShortAll, b, d]⟩
end
theorem lay_mem : ∀ {ds : List PyData} {d : PyData}, PyData.canLayAll0 ds = true → d ∈ ds → d.canLay0 = true
  | x :: xs, d, h, m => by
    simp only [PyData.canLayAll0, Bool.and_eq_true] at h
    rcases List.mem_cons.mp m with e | m
    · rw [e]; exact h.1
    · exact lay_mem h.2 m
theorem wAll_app : ∀ xs ys : List PyData, PyData.weightAll (xs ++ ys) = PyData.weightAll xs + PyData.weightAll ys
  | [], ys => by simp [PyData.weightAll]
  | x :: xs, ys => by
    rw [List.cons_append]
    simp only [PyData.weightAll]
    rw [wAll_app xs ys]
    omega
theorem dAll_app : ∀ xs ys : List PyData, PyData.depthAll (xs ++ ys) = max (PyData.depthAll xs) (PyData.depthAll ys)
  | [], ys => by simp [PyData.depthAll]
  | x :: xs, ys => by
    rw [List.cons_append]
    simp only [PyData.depthAll]
    rw [dAll_app xs ys]
    omega
theorem okLA_app {B : Nat} {xs ys : List PyData} : okLA B (xs ++ ys) = (okLA B xs && okLA B ys) := by rw [okLA_all, okLA_all, okLA_all, List.all_append]
/-- a list within sizes -/
structure FnA (B w d : Nat) (xs : List PyData) : Prop where
  o : okLA B xs = true
  w : PyData.weightAll xs ≤ w
  d : PyData.depthAll xs ≤ d
structure Fn (B w d : Nat) (x : PyData) : Prop where
  o : okL B x = true
  w : x.weight ≤ w
  d : x.depth ≤ d
theorem Fn.mono {B w d B' w' d' : Nat} {x : PyData} (h : Fn B w d x) (hB : B ≤ B') (hw : w ≤ w') (hd : d ≤ d') : Fn B' w' d' x := ⟨okL_mono hB x h.o, Nat.le_trans h.w hw, Nat.le_trans h.d hd⟩
theorem FnA.mono {B w d B' w' d' : Nat} {x : List PyData} (h : FnA B w d x) (hB : B ≤ B') (hw : w ≤ w') (hd : d ≤ d') : FnA B' w' d' x := ⟨okLA_mono hB x h.o, Nat.le_trans h.w hw, Nat.le_trans h.d hd⟩
theorem FnA.nil {B w d : Nat} : FnA B w d [] := ⟨rfl, Nat.zero_le _, Nat.zero_le _⟩
theorem FnA.app {B w w' d : Nat} {xs ys : List PyData} (h : FnA B w d xs) (k : FnA B w' d ys) : FnA B (w + w') d (xs ++ ys) :=
  ⟨by rw [okLA_app, h.o, k.o]; rfl, by rw [wAll_app]; exact Nat.add_le_add h.w k.w, by rw [dAll_app]; exact Nat.max_le.mpr ⟨h.d, k.d⟩⟩
theorem FnA.one {B w d : Nat} {x : PyData} (h : Fn B w d x) : FnA B (w + 1) d [x] := ⟨by simp [okLA, h.o], by simp only [PyData.weightAll]; have := h.w; omega, by simp only [PyData.depthAll]; have := h.d; omega⟩
theorem FnA.take {B w d : Nat} {xs : List PyData} (h : FnA B w d xs) (n : Nat) : FnA B w d (xs.take n) := by
  have e := List.take_append_drop n xs
  refine ⟨?_, ?_, ?_⟩
  · have := h.o; rw [← e, okLA_app, Bool.and_eq_true] at this; exact this.1
  · have := h.w; rw [← e, wAll_app] at this; omega
  · have := h.d; rw [← e, dAll_app] at this; omega
theorem FnA.drop {B w d : Nat} {xs : List PyData} (h : FnA B w d xs) (n : Nat) : FnA B w d (xs.drop n) := by
  have e := List.take_append_drop n xs
  refine ⟨?_, ?_, ?_⟩
  · have := h.o; rw [← e, okLA_app, Bool.and_eq_true] at this; exact this.2
  · have := h.w; rw [← e, wAll_app] at this; omega
  · have := h.d; rw [← e, dAll_app] at this; omega
theorem FnA.cut {B w d : Nat} {xs : List PyData} (h : FnA B w d xs) (lo hi : Option Int) : FnA B w d (cut xs lo hi) := (h.drop _).take _
theorem FnA.rev {B w d : Nat} {xs : List PyData} (h : FnA B w d xs) : FnA B w d xs.reverse := by
  have : okLA B xs.reverse = okLA B xs ∧ PyData.weightAll xs.reverse = PyData.weightAll xs ∧ PyData.depthAll xs.reverse = PyData.depthAll xs := by
    induction xs generalizing w d with
    | nil => exact ⟨rfl, rfl, rfl⟩
    | cons x xs ih =>
      obtain ⟨a, b, c⟩ := ih (w := PyData.weightAll xs) (d := PyData.depthAll xs) ⟨by have := h.o; simp only [okLA, Bool.and_eq_true] at this; exact this.2, Nat.le_refl _, Nat.le_refl _⟩
      rw [List.reverse_cons, okLA_app, wAll_app, dAll_app, a, b, c]
      refine ⟨by simp [okLA, Bool.and_comm], ?_, ?_⟩
      · simp only [PyData.weightAll]; omega
      · simp only [PyData.depthAll]; omega
  exact ⟨by rw [this.1]; exact h.o, by rw [this.2.1]; exact h.w, by rw [this.2.2]; exact h.d⟩
theorem FnA.mem {B w d : Nat} {xs : List PyData} (h : FnA B w d xs) {x : PyData} (m : x ∈ xs) : Fn B w d x := by
  obtain ⟨a, b, rfl⟩ := List.append_of_mem m
  refine ⟨?_, ?_, ?_⟩
  · exact okLA_iff.mp h.o x m
  · have := h.w; rw [wAll_app] at this; simp only [PyData.weightAll] at this; omega
  · have := h.d; rw [dAll_app] at this; simp only [PyData.depthAll] at this; omega
theorem FnA.len {B w d : Nat} : ∀ {xs : List PyData}, FnA B w d xs → xs.length ≤ w := by
  intro xs h
  have : ∀ ys : List PyData, ys.length ≤ PyData.weightAll ys := by
    intro ys
    induction ys with
    | nil => exact Nat.le_refl _
    | cons y ys ih => simp only [PyData.weightAll, List.length_cons]; omega
  exact Nat.le_trans (this xs) h.w
theorem FnA.tup {B w d : Nat} {xs : List PyData} (h : FnA B w d xs) : Fn B w (d + 1) (.tuple xs) := ⟨h.o, h.w, by simp only [PyData.depth]; have := h.d; omega⟩
theorem FnA.lst {B w d : Nat} {xs : List PyData} (h : FnA B w d xs) : Fn B w (d + 1) (.list xs) := ⟨h.o, h.w, by simp only [PyData.depth]; have := h.d; omega⟩
theorem Fn.items {B w d : Nat} {xs : List PyData} (h : Fn B w (d + 1) (.tuple xs)) : FnA B w d xs := ⟨h.o, h.w, by have := h.d; simp only [PyData.depth] at this; omega⟩
theorem Fn.pos {B w d : Nat} {xs : List PyData} (h : Fn B w d (.tuple xs)) : 1 ≤ d := by have := h.d; simp only [PyData.depth] at this; omega
theorem cut_to {α : Type} (xs : List α) (k : Nat) : cut xs none (some (k : Int)) = xs.take k := by
  unfold cut
  rw [HT.sIx_none, HT.sIx_nat, List.drop_zero, Nat.sub_zero]
  by_cases h : k ≤ xs.length
  · rw [Nat.min_eq_left h]
  · rw [Nat.min_eq_right (by omega), List.take_length, List.take_of_length_le (by omega)]
theorem cut_from {α : Type} (xs : List α) (k : Nat) : cut xs (some (k : Int)) none = xs.drop k := by
  unfold cut
  rw [HT.sIx_none, HT.sIx_nat]
  by_cases h : k ≤ xs.length
  · rw [Nat.min_eq_left h, List.take_of_length_le (by rw [List.length_drop]; omega)]
  · rw [Nat.min_eq_right (by omega), Nat.sub_self, List.take_zero, List.drop_of_length_le (by omega)]
theorem Fn.show {B w d : Nat} {x : PyData} (h : Fn B w d x) (hB : B ≤ 2 ^ 198) (hw : w ≤ 80000) (hd : d ≤ 100) : showOk x := by
  obtain ⟨a, b⟩ := okL_show hB x h.o
  refine ⟨a, ?_, Nat.le_trans h.d hd⟩
  have e := PyData.shown_le 199 (by decide) x b
  have : (199 + 2) * x.weight ≤ 201 * 80000 := Nat.mul_le_mul_left _ (Nat.le_trans h.w hw)
  rw [sizeLine_eq]
  omega
theorem Fn.int {B w d : Nat} {i : Int} (h : i.natAbs < B) (hB : B ≤ 2 ^ 198) (hw : 198 ≤ w) : Fn B w d (.int i) := by
  refine ⟨by simp [okL, h], ?_, by simp [PyData.depth]⟩
  have := log2_lt (x := i) (by decide) (Nat.lt_of_lt_of_le h hB)
  simp only [PyData.weight]
  split <;> omega
theorem Fn.strW {B w d : Nat} {z : Str} (h : PyData.strOk z = true) (hw : z.length ≤ w) : Fn B w d (.str z) := ⟨h, hw, Nat.zero_le _⟩
theorem strOk_app {x y : Str} (h : PyData.strOk x = true) (k : PyData.strOk y = true) : PyData.strOk (x ++ y) = true := by
  show (x.cps ++ y.cps).all _ = true
  rw [Array.all_append]
  simp only [PyData.strOk] at h k
  rw [h, k]
  rfl
theorem strOk_cut {x : Str} (h : PyData.strOk x = true) (lo hi : Option Int) : PyData.strOk (cutS x lo hi) = true := by
  simp only [PyData.strOk, Array.all_eq_true_iff_forall_mem, decide_eq_true_eq] at h ⊢
  intro c hc
  unfold cutS at hc
  simp only [List.mem_toArray] at hc
  exact h c (Array.mem_toList_iff.mp (List.mem_of_mem_drop (List.mem_of_mem_take hc)))
end Dl
set_option Elab.async false
set_option linter.all false
set_option maxRecDepth 100000
/-! a dict of the text, its keys texts: within -/
namespace Dl
open PySem PySem.Spec PyProof.Rows L2
def chkK : List DictEntry → List Str → Bool
  | [], [] => true
  | e :: r, k :: ks => (match e.key with | .str x _ => x == k | _ => false) && chkK r ks
  | _, _ => false
theorem chkK_ok (z : Str) : ∀ (l : List DictEntry) (ks : List Str), chkK l ks = true → (l.find? (·.key.isStr z)).isSome = ks.contains z ∧ l.any (·.refKey) = false
  | [], [], _ => ⟨rfl, rfl⟩
  | e :: r, [], h => by simp [chkK] at h
  | [], k :: ks, h => by simp [chkK] at h
  | e :: r, k :: ks, h => by
    simp only [chkK, Bool.and_eq_true] at h
    obtain ⟨h1, h2⟩ := chkK_ok z r ks h.2
    obtain ⟨hh, key, val⟩ := e
    cases key with
    | str x t =>
      have hx : x = k := eq_of_beq h.1
      subst hx
      have e1 : (Value.str x t).isStr z = (x == z) := rfl
      constructor
      · rw [List.find?_cons]
        simp only [e1]
        rw [List.contains_cons]
        by_cases q : x = z
        · subst q; simp
        · have q1 : (x == z) = false := beq_eq_false_iff_ne.mpr q
          have q2 : (z == x) = false := beq_eq_false_iff_ne.mpr fun w => q w.symm
          rw [q1, q2, Bool.false_or]
          exact h1
      · rw [List.any_cons, h2]
        rfl
    | _ => exact absurd h.1 (by simp)
structure KTab (g : Gc) (x : Str) (d : Addr) (ks : List Str) : Prop where
  m : g.mg x = some (.ref d)
  k : ∃ es n, KDict g.K g.w d es n
  s : ∀ z, ∃ r, PySem.W.nsIn g.K d z = some r ∧ r.isSome = ks.contains z
theorem ktab_of {g : Gc} {x : Str} {d : Addr} {es : Array DictEntry} {n : Nat} {ks : List Str} (m : g.mg x = some (.ref d)) (at_ : g.K.lookup d = some ⟨.type "dict", none, .dict es n, #[]⟩) (lit : PySem.W.KeysLit g.w.params es.toList) (low : (d == sysModules) = false) (c : chkK es.toList ks = true) : KTab g x d ks := by
  refine ⟨m, ⟨es, n, at_, lit, low⟩, fun z => ?_⟩
  obtain ⟨h1, h2⟩ := chkK_ok z es.toList ks c
  unfold PySem.W.nsIn
  rw [at_]
  simp only
  cases hf : es.toList.find? (·.key.isStr z) with
  | some e => exact ⟨some e.val, rfl, by rw [hf] at h1; exact h1⟩
  | none =>
    rw [if_neg (by rw [h2]; exact Bool.false_ne_true)]
    exact ⟨none, rfl, by rw [hf] at h1; exact h1⟩
section
variable {g : Gc} {i : Si} {k : Nat} {Y : Dx}
def tRef (d : Addr) : TEd := fun _ M Q => Q (.ref d) M
theorem q_ref (F : Fm g i k Y) (j : Nat) {x : Str} {pos : Pos} {d : Addr} {ks : List Str} (C : KTab g x d ks) (hj : i.gls[j]? = some x := by rfl) : QE Y (.Name x pos) (tRef d) := by
  obtain ⟨h1, h2, h3⟩ := F.glo j x hj
  exact ⟨fun s H σ M Q S h => semE_of (pe_glob h1 (by rw [F.hmg]; exact C.m) (show RelV (.ref d) (.ref d) from rfl) h2) (S.here (w := .ref d) rfl h)⟩
def rKd (d : Addr) (ks : List Str) (neg : Bool) : R2d := fun a b M Q => match a, b with
  | .d (.str z), .ref p => p = d ∧ Q (.d (.bool (if neg then !ks.contains z else ks.contains z))) M
  | _, _ => False
theorem o_inK (F : Fm g i k Y) {x : Str} {d : Addr} {ks : List Str} (C : KTab g x d ks) : Op2 Y (compareOp .In) (rKd d ks false) := by
  intro s H σ M x y a b Q S rx ry q
  unfold rKd at q
  split at q
  · obtain ⟨es, n, D⟩ := C.k
    rw [← F.hK, ← F.hw] at D
    obtain ⟨rfl, q⟩ := q
    obtain ⟨r, e, er⟩ := C.s _
    refine semO_of (op_in_kd D) ⟨_, r, rx.str, ry, by rw [F.hK]; exact e, ?_⟩
    rw [er]
    exact S.here (wBool _) q
  · exact q.elim
theorem o_notInK (F : Fm g i k Y) {x : Str} {d : Addr} {ks : List Str} (C : KTab g x d ks) : Op2 Y (compareOp .NotIn) (rKd d ks true) := by
  intro s H σ M x y a b Q S rx ry q
  unfold rKd at q
  split at q
  · obtain ⟨es, n, D⟩ := C.k
    rw [← F.hK, ← F.hw] at D
    obtain ⟨rfl, q⟩ := q
    obtain ⟨r, e, er⟩ := C.s _
    refine semO_of (op_notIn_kd D) ⟨_, r, rx.str, ry, by rw [F.hK]; exact e, ?_⟩
    rw [er]
    exact S.here (wBool _) q
  · exact q.elim
end
end Dl
set_option Elab.async false
set_option linter.all false
set_option maxRecDepth 100000
/-! exceptions: raise, try .. except, isinstance of what was caught -/
namespace L2
open PySem PySem.Spec PyProof.Rows
section
variable {X : Cx} {pins : List (Addr × Obj)} {σ : St} {H : Hp} {sI s' : Shared} {B : Heap}
/-- back on the ground, the exception's object among what is tracked -/
theorem Inv.landedT {a : Addr} {o : HO} (I : Inv X pins σ H sI) (nb : ∀ b o, sI.heap.get? b = some o → b ∉ frs X.stack → B.get? b = some o) (st : B.StaysIn s'.heap) (up : sI.heap.UpToSlots s'.heap) (os : s'.os = sI.os) (ag : AllBare s'.gens) (na : H a = none) (hn : sI.heap.get? a = none)
    (new : ObjOk X.prog X.w (upd H a o) s'.heap a o) : Inv X pins σ (upd H a o) s' := by
  have nf : ∀ b ∈ frs X.stack, ∀ o, sI.heap.get? b = some o → ∃ sl, s'.heap.get? b = some { o with slots := sl } := fun b hb o e => by
    obtain ⟨_, o', e', hd⟩ := I.stack.mem hb
    rw [e] at e'; cases e'
    exact up b o e hd
  have J := I.call (ch := []) (h' := s'.heap) (g' := s'.gens) (t' := s'.toks) (d' := s'.drawn) (H' := upd H a o)
    ⟨fun b o e _ hb _ => st b o (nb b o e hb), fun b o e _ hb _ => nf b hb o e, fun b u e n _ => by rw [upd_ne (fun z => by rw [z, hn] at e; cases e)]; exact n, fun b o e _ => by
      by_cases hb : b ∈ frs X.stack
      · obtain ⟨sl, q⟩ := nf b hb o e
        exact ⟨_, q⟩
      · exact ⟨o, st b o (nb b o e hb)⟩, fun b xs e => by rw [upd_ne (ne_of_none e na)]; exact e, fun b u xs e => by rw [upd_ne (ne_of_none e na)]; exact e, fun b ps e => ⟨#[], by rw [upd_ne (ne_of_none e na), e]; simp⟩⟩
    (by
      have K := (I.inGround nb).kept st
      intro b u e
      by_cases hb : b = a
      · subst hb
        rw [upd_same] at e
        cases e
        exact new
      · rw [upd_ne hb] at e
        exact (K b u e).stay (fun c v _ q => q) (fun c q => by rw [upd_ne (ne_of_none q na)]; exact q) fun c xs q => by rw [upd_ne (ne_of_none q na)]; exact q) ag (fun _ z => nomatch z)
  obtain ⟨a1, a2, a3, a4, a5⟩ := s'
  have e5 : a5 = sI.os := os
  subst e5
  exact J
theorem Inv.suiteT (I : Inv X pins σ H sI) (a : Addr) : Inv (X.suite a (X.pn ++ pins)) [] σ H sI :=
  ⟨I.ok.suite _ _, I.os, I.bare, I.base, I.loc, I.cell, I.free, I.freeC, fun p hp => I.pin p (by rw [List.append_nil] at hp; exact hp), I.hok, I.len⟩
theorem Inv.unsuiteT {a : Addr} {pn' : List (Addr × Obj)} (I : Inv (X.suite a (X.pn ++ pins)) pn' σ H sI) (ok : X.Ok) : Inv X pins σ H sI :=
  ⟨ok, I.os, I.bare, I.base, I.loc, I.cell, I.free, I.freeC, fun p hp => I.pin p (List.mem_append_left _ hp), I.hok, I.len⟩
end
/-- what the clause wishes: the exception's object is tracked in the suite -/
def wAsT (K : PySem.W.Frag) (mk : Value → Option Addr → Addr → HO) (c : Value) (i : Nat) (ts : Addr → TS) (Wout : WX) (D : Ends) : WX := fun cls d σ H =>
  ∃ b, PySem.W.exmOne K cls c = some b ∧ (b = true → ∀ a, H a = none → ts a { nx := fun σ' H' => D.nx (σ'.set i none) H', rt := D.rt, bk := fun σ' H' => D.bk (σ'.set i none) H', ct := fun σ' H' => D.ct (σ'.set i none) H' } (σ.set i (some (.ref a))) (upd H a (mk cls d a))) ∧
    (b = false → Wout cls d σ H)
section
variable {X : Cx} {x n : Str} {c : Value} {i : Nat} {body suite : List Stmt} {b₀ : Stmt} {np pos pos' : Pos} {tb : WX → TS} {ts : Addr → TS} {Wout : WX} {mk : Value → Option Addr → Addr → HO}
theorem ps_try_asT (hmk : ∀ {P : Program} {w : World} {H : Hp} {h : Heap} {a : Addr} {cls : Value} {d : Option Addr} {oe : Obj} {vs : Array Value}, h.get? a = some oe → Zc cls d oe → oe.data = .fields vs → ObjOk P w H h a (mk cls d a))
    (hs : X.stack = X.env :: X.outer) (hf : X.env.frame = some X.env.locals) (hN : X.N.Nodup) (hi : X.N[i]? = some n) (hln : X.env.kindOf n = some .local) (hc : Names X x c) (tk : Takes X Wout)
    (hb : ∀ (W : WX) (pn : List (Addr × Obj)) (xe : Value → Shared → Prop), Takes (X.tr pn xe) W → PassesOwn (model X.prog X.w) X.A X.env xe → PSs (X.tr pn xe) body (tb W))
    (hsu : ∀ (a : Addr) (pn : List (Addr × Obj)), PSs (X.suite a pn) (b₀ :: suite) (ts a)) :
    PS X (.Try body [.ExceptHandler (some (.Name x np)) (some n) (b₀ :: suite) pos'] [] [] pos) (fun D σ H => tb (wAsT X.K mk c i ts Wout D) D σ H) := by
  refine ⟨fun pins s σ H D I h => ?_⟩
  have ok := I.ok
  have hfr : X.A.frames = some (X.env :: X.outer) := by rw [ok.frames, hs]
  have hloc : Loc X.env.scope n := .inl hln
  refine wpAny_Try_except ?_
  refine wpAny_mono ((hb (wAsT X.K mk c i ts Wout D) (X.pn ++ pins) (fun e s₁ => wpAny (model X.prog X.w) X.A (noteFrame e X.env) (fun _ s₂ => wpAny (model X.prog X.w) X.A (setFlight e none) (fun _ s₃ =>
    wpAny (model X.prog X.w) X.A (handleBy e X.env [.ExceptHandler (some (.Name x np)) (some n) (b₀ :: suite) pos']) (SP X pins D) X.xe s₃) X.xe s₂) X.xe s₁) (fun u s' xx => ?_) PassesOwn.looking).run [] s σ H D (I.toTry _) h) (fun f s1 hsp => ?_) (fun e s1 he => he)
  · -- the catch
    obtain ⟨a, B, sI, pins', σ', H', cls, d, rfl, J', nb, up, sky, na, os, ag, b, hb1, hyes, hno⟩ := xx
    have J : Inv X pins σ' H' sI := J'.ofTry ok
    have sky' : Sky B (X.env :: X.outer) a (Zc cls d) X.env.locals s'.heap := by rw [← hs]; exact sky
    show wpAny (model X.prog X.w) X.A (noteFrame (.ref a) X.env) _ _ _
    refine Sky.land Zc.steady hfr hf sky' fun h3 fl3 up3 => ?_
    have J3 : Inv X pins σ' H' { s' with heap := h3 } := J.landed nb fl3.1 (up.trans up3) os ag
    obtain ⟨oe3, vs3, he3, hz3, hd3⟩ := fl3.there
    have notFr : ∀ {h : Heap} {o : Obj} {vs : Array Value}, h.FunFrames B (X.env :: X.outer) → h.get? a = some o → o.data = .fields vs → a ∉ frs (X.env :: X.outer) := fun {h o vs} ff e dd hm => by
      obtain ⟨_, o', e', hnf⟩ := ff.mem hm
      rw [e] at e'; cases e'
      exact hnf _ dd
    have nfr := notFr fl3.2.2.1 he3 hd3
    have hn : sI.heap.get? a = none := by
      cases q : sI.heap.get? a with
      | none => rfl
      | some o =>
        have z := nb a o q (by rw [hs]; exact nfr)
        rw [fl3.2.1] at z
        cases z
    have S3 := J3.suiteT a
    refine wpAny_handleBy_cons (codeAny_handlers_test ?_) (by intro q; cases q)
    have LT : PySem.W.Looks (model X.prog X.w) h3 (typeOf (.ref a)) cls := fun A Q E s k q => wpAny_typeOf_ref (k _ _ he3) (by rw [hz3.1]; exact q)
    have LM := PySem.W.exm_one (M := model X.prog X.w) (J3.kIn) LT hb1
    have test : ∀ {Q : Value → Shared → Prop} {E : Value → Shared → Prop}, Q c { s' with heap := h3 } → wpAny (model X.prog X.w) (X.A.mark (some (.ref a))) (eval (.Name x np) X.env) Q E { s' with heap := h3 } := fun {Q E} q => by
      obtain ⟨hg, hdbg, hm | ⟨hm, hv, hnn⟩⟩ := hc
      · exact ld_glob (X := X.suite a (X.pn ++ pins)) S3 hg hm q hdbg
      · exact ld_blt (X := X.suite a (X.pn ++ pins)) S3 hg hm hv q hnn hdbg
    refine test (LM.here ?_)
    cases b with
    | true =>
      refine codeAny_handlers_suite_as ?_
      refine HandSPX.lands_againZ fl3 fun h4 fl4 up4 => ?_
      obtain ⟨oe4, vs4, he4, hz4, hd4⟩ := fl4.there
      have J4 : Inv X pins σ' (upd H' a (mk cls d a)) { s' with heap := h4 } := J.landedT nb fl4.1 ((up.trans up3).trans up4) os ag na hn (hmk he4 hz4 hd4)
      have S4 := J4.suiteT a
      refine store_ok (X := X.suite a (X.pn ++ pins)) (v := .ref a) S4 hN hi hloc rfl (fun s5 S5 => ?_) (.inr hln)
      refine wpAny_mono ((hsu a (X.pn ++ pins)).run [] s5 _ _ _ S5 (hyes rfl a na)) (fun f s6 hsp => ?_) (fun _ _ z => False.elim z)
      have end_ : ∀ {σ6 : St} {H6 : Hp} {Q : Shared → Prop}, Inv (X.suite a (X.pn ++ pins)) [] σ6 H6 s6 → (∀ s7, Inv X pins (σ6.set i none) H6 s7 → Q s7) →
          wpAny (model X.prog X.w) X.A (do bindName X.env n .none; unbindBehindTheSuite X.env n pos') (fun _ s7 => Q s7) X.xe s6 := fun {σ6 H6 Q} S6 hq => gone_ok (S6.unsuiteT ok) hN hi hln hq
      cases f with
      | next =>
        obtain ⟨σ6, H6, S6, q6⟩ := hsp
        exact end_ S6 fun s7 J7 => ⟨_, _, J7, q6⟩
      | brk =>
        obtain ⟨σ6, H6, S6, q6⟩ := hsp
        exact end_ S6 fun s7 J7 => ⟨_, _, J7, q6⟩
      | cont =>
        obtain ⟨σ6, H6, S6, q6⟩ := hsp
        exact end_ S6 fun s7 J7 => ⟨_, _, J7, q6⟩
      | ret u =>
        obtain ⟨v6, σ6, H6, S6, r6, q6⟩ := hsp
        exact end_ S6 fun s7 J7 => ⟨_, _, _, J7, r6, q6⟩
    | false =>
      show wpAny _ X.A (handleBy (.ref a) X.env []) _ _ _
      refine wpAny_handleBy_nil ?_
      obtain ⟨k1, k2, k3, oe, vs, T, oT, ts', he, hz, hd, h1, hr⟩ := id fl3
      unfold PySem.passOn
      refine wpAny_bind (wpAny_field he hd h1 ?_)
      rw [if_neg (show ¬ ((Value.ref T == Value.none) = true) from by simp)]
      have fin : wpAny (model X.prog X.w) X.A (setFlight (.ref a) X.env.frame) (fun _ s4 => wpAny (model X.prog X.w) X.A (throw (.ref a) : Sem Flow) (SP X pins D) X.xe s4) X.xe { s' with heap := h3 } := by
        rw [hf]
        refine HandSPX.setFlight_upZ fl3 fun h4 hh4 up4 => wpAny_throw (tk _ _ ?_)
        exact ⟨a, B, sI, pins, σ', H', cls, d, rfl, J, nb, (up.trans up3).trans up4, .inr (.inr (by rw [hs]; exact hh4)), na, os, ag, hno rfl⟩
      first
        | exact wpAny_bind (wpAny_pure (wpAny_bind fin))
        | exact wpAny_bind fin
  · cases f with
    | next =>
      obtain ⟨σ', H', J', q⟩ := hsp
      exact wpAny_execs_nil ⟨σ', H', J'.ofTry ok, q⟩
    | brk =>
      obtain ⟨σ', H', J', q⟩ := hsp
      exact ⟨σ', H', J'.ofTry ok, q⟩
    | cont =>
      obtain ⟨σ', H', J', q⟩ := hsp
      exact ⟨σ', H', J'.ofTry ok, q⟩
    | ret u =>
      obtain ⟨v, σ', H', J', r, q⟩ := hsp
      exact ⟨v, σ', H', J'.ofTry ok, r, q⟩
end
end L2
namespace Dl
open PySem PySem.Spec PyProof.Rows L2
/-- the class that the module's name x tells -/
def ecl (g : Gc) (x : Str) : Value := (g.mg x).getD .none
/-- an own class over ValueError, without an own __init__ -/
structure ECls (g : Gc) (x : Str) : Prop where
  ex : ∃ C, g.mg x = some (.ref C) ∧ PySem.W.keepIn g.K (.ref C) = true ∧ PySem.W.excIn g.K C [.type "ValueError", .type "Exception", .type "BaseException", .type "object"] "ValueError.__new__" = true ∧ PySem.W.typeIn g.K (.ref C) = some (.type "type") ∧ L2.ExcC g.K C
/-- any own class over ValueError -/
structure ECl0 (g : Gc) (x : Str) : Prop where
  ex : ∃ C, g.mg x = some (.ref C) ∧ PySem.W.typeIn g.K (.ref C) = some (.type "type") ∧ L2.ExcC g.K C
theorem ECls.ecl {g : Gc} {x : Str} (h : ECls g x) : ∃ C, Dl.ecl g x = .ref C ∧ g.mg x = some (.ref C) ∧ L2.ExcC g.K C := by
  obtain ⟨C, h1, _, _, _, h2⟩ := h.ex
  exact ⟨C, by unfold Dl.ecl; rw [h1]; rfl, h1, h2⟩
/-- an exception of the class x is one of the class c, as except and isinstance look at it -/
def EIs (g : Gc) (x : Str) (c : Value) (b : Bool) : Prop := PySem.W.kitOne g.K (ecl g x) c = some b ∧ PySem.W.exmOne g.K (ecl g x) c = some b
section
variable {g : Gc} {i : Si} {k : Nat} {Y : Dx}
/-- raise X('m') -/
def tRai (cls : Value) (wd : Value → XF → SD → MH → Prop) : TSd := fun _ σ M => wd cls none σ M
theorem s_raiseW {wd : Value → XF → SD → MH → Prop} (hw : Y.wd = wd) (F : Fm g i k Y) (j : Nat) {x m : Str} {jj : Nat} {p p2 pos pos' : Pos} (E : ECls g x) (hj : i.gls[j]? = some x := by rfl) (hc : i.hot = false := by rfl) :
    QS Y (.Raise (some (.Call (.Name x p) [.Constant (.str m) jj p2] [] pos)) none pos') (tRai (ecl g x) wd) := by
  subst hw
  obtain ⟨C, m1, m2, m3, m4, m5⟩ := E.ex
  obtain ⟨h1, h2, h3⟩ := F.glo j x hj
  have ec : ecl g x = .ref C := by unfold ecl; rw [m1]; rfl
  refine ⟨fun s H σ M D S h => ?_⟩
  refine semS_of (ps_raise (F.calm hc) F.tk (pmk_own PySem.F.excBase_ValueError (by rw [F.hK]; exact m3) (by rw [F.hmg]; exact m1) (by rw [F.hK]; exact m2) (raises_own (by rw [F.hK]; exact m5.hs) (by rw [F.hK]; exact m4)) h1 h2)) ?_
  refine ⟨σ, M, none, S, trivial, ?_⟩
  rw [← ec]
  exact h
theorem s_raise1 (F : Fm g i k Y) (j : Nat) {x m : Str} {jj : Nat} {p p2 pos pos' : Pos} (E : ECls g x) (hj : i.gls[j]? = some x := by rfl) (hc : i.hot = false := by rfl) :
    QS Y (.Raise (some (.Call (.Name x p) [.Constant (.str m) jj p2] [] pos)) none pos') (tRai (ecl g x) Y.wd) := s_raiseW rfl F j E hj hc

/-- try: body, except x as n: suite -/
def tTry (K : PySem.W.Frag) (c : Value) (j : Nat) (tb : (Value → XF → SD → MH → Prop) → TSd) (ts : TSd) (wout : Value → XF → SD → MH → Prop) : TSd := fun D σ M => tb (fun cls fs σ1 M1 => ∃ b, PySem.W.exmOne K cls c = some b ∧
  (b = true → ∀ a, M1 a = none → ts { nx := fun σ' M' => D.nx (σ'.set j none) M', rt := D.rt, bk := fun σ' M' => D.bk (σ'.set j none) M', ct := fun σ' M' => D.ct (σ'.set j none) M' } (σ1.set j (some (.ref a))) (mset M1 a (.exc cls fs))) ∧ (b = false → wout cls fs σ1 M1)) D σ M
/-- what an except clause names -/
structure ENm (g : Gc) (x : Str) (c : Value) : Prop where
  n : g.mg x = some c ∨ (g.mg x = none ∧ bootBuiltins x = some c ∧ x ≠ "__name__")
theorem Fm.hots (F : Fm g i k Y) (a : Addr) (pn : List (Addr × Obj)) (H0 : Hp) (M0 : MH) : Fm g { i with hot := true } k { X := Y.X.suite a pn, H0 := H0, M0 := M0, wd := fun _ _ _ _ => False } :=
  ⟨F.hP, F.hw, F.hK, F.hmg, F.hb, F.N, F.hsc, F.nd, (fun z => by cases z), (fun z => by cases z), F.gd, ⟨F.room.dp, F.room.un⟩, F.fr, F.var, F.loc, F.cel, F.glo, F.sy, (by
    rintro u s' ⟨_, _, _, _, _, _, _, _, _, _, _, _, _, _, _, _, _, _, _, _, _, w⟩
    exact (show False from w).elim), PassesOwn.never⟩
/-- a context within another one's try -/
structure Within (Y Y' : Dx) : Prop where
  o : Y'.X.outer = Y.X.outer
  x : Y'.X.ex = Y.X.ex
  h : Y'.X.H_0 = Y.X.H_0
  s : Y'.X.s_0 = Y.X.s_0
  e : Ext Y.H0 Y.M0 Y'.H0 Y'.M0
theorem s_tryS {wd : Value → XF → SD → MH → Prop} (hw : Y.wd = wd) (F : Fm g i k Y) (j : Nat) {x n : Str} {c : Value} {body suite : List Stmt} {b₀ : Stmt} {np pos pos' : Pos} {tb : (Value → XF → SD → MH → Prop) → TSd} {ts : TSd} (jx : Nat) (N : ENm g x c)
    (hb : ∀ wd' (Y' : Dx), Fm g i k Y' → Y'.wd = wd' → Within Y Y' → QSs Y' body (tb wd')) (hs : ∀ Y' : Dx, Fm g { i with hot := true } k Y' → Y'.wd = noWd → QSs Y' (b₀ :: suite) ts)
    (hN : i.N[j]? = some n := by rfl) (hl : i.loc.contains j = true := by rfl) (hx : i.gls[jx]? = some x := by rfl) (hbk : i.blk = false := by rfl) :
    QS Y (.Try body [.ExceptHandler (some (.Name x np)) (some n) (b₀ :: suite) pos'] [] [] pos) (tTry g.K c j tb ts wd) := by
  subst hw
  obtain ⟨h1, h2, h3⟩ := F.glo jx x hx
  have hk := F.loc j n hl hN
  have nm : Names Y.X x c := ⟨h1, h2, by rw [F.hmg]; exact N.n⟩
  refine ⟨fun s H σ M D S h => ?_⟩
  let tsS : Addr → TS := fun a D' s1 H1 => ∀ pn, semSs (Y.X.suite a pn) (b₀ :: suite) D' s1 H1
  let tbS : WX → TS := fun W D' s1 H1 => ∀ pn xe, Takes (Y.X.tr pn xe) W → PassesOwn (model Y.X.prog Y.X.w) Y.X.A Y.X.env xe → semSs (Y.X.tr pn xe) body D' s1 H1
  refine semS_of (ps_try_asT (mk := ExL) (tb := tbS) (ts := tsS) (fun e z d => exL_ok e z d) (F.fr hbk).1 (F.fr hbk).2 (by rw [F.N]; exact F.nd) (i := j) (by rw [F.N]; exact hN) hk nm F.tk ?_ ?_) ?_
  · intro W pn xe tk po
    exact ⟨fun pins s σ H D' I hh => hh pn xe tk po pins s I⟩
  · intro a pn
    exact ⟨fun pins s σ H D' I hh => hh pn pins s I⟩
  · intro pn xe tk po
    have up : ∀ {σ' M' s' H'}, Ext H M H' M' → Dok Y.X.K H' M' → Slots Y.X.K H' M' s' σ' → Std Y s' H' σ' M' := fun e d sl => ⟨S.e.trans e, d, sl⟩
    let wd' : Value → XF → SD → MH → Prop := fun cls fs σ1 M1 => ∃ b, PySem.W.exmOne g.K cls c = some b ∧
      (b = true → ∀ a, M1 a = none → ts { nx := fun σ' M' => D.nx (σ'.set j none) M', rt := D.rt, bk := fun σ' M' => D.bk (σ'.set j none) M', ct := fun σ' M' => D.ct (σ'.set j none) M' } (σ1.set j (some (.ref a))) (mset M1 a (.exc cls fs))) ∧ (b = false → Y.wd cls fs σ1 M1)
    let Y' : Dx := { X := Y.X.tr pn xe, H0 := H, M0 := M, wd := wd' }
    have F' : Fm g i k Y' := by
      refine ⟨F.hP, F.hw, F.hK, F.hmg, F.hb, F.N, F.hsc, F.nd, F.calm, F.hd, F.gd, F.room, F.fr, F.var, F.loc, F.cel, F.glo, F.sy, ?_, po⟩
      refine tk.imp fun cls d s1 H1 ⟨σ1, M1, fs, S1, xf, b, hb1, hyes, hno⟩ => ⟨b, by rw [F.hK]; exact hb1, fun hbt a na pn2 => ?_, fun hbf => ⟨σ1, M1, fs, up S1.e S1.d S1.s, xf, hno hbf⟩⟩
      have nm := S1.d.free na
      have X1 : Ext H1 M1 (upd H1 a (ExL cls d a)) (mset M1 a (.exc cls fs)) := ext_mut (.inr na)
      have d1 : Dok Y.X.K (upd H1 a (ExL cls d a)) (mset M1 a (.exc cls fs)) := dok_mut (u := .exc cls fs) S1.d (.inr na) fun e => ⟨d, upd_same, xf.ext e⟩
      have Fh := F.hots a pn2 H M
      let Yh : Dx := { X := Y.X.suite a pn2, H0 := H, M0 := M, wd := fun _ _ _ _ => False }
      have Sh : Std Yh (s1.set j (some (.ref a))) (upd H1 a (ExL cls d a)) (σ1.set j (some (.ref a))) (mset M1 a (.exc cls fs)) := ⟨S1.e.trans X1, d1, (S1.s.ext X1).set (w := .ref a) rfl j⟩
      have q := hyes hbt a nm
      have z := (hs Yh Fh rfl).run _ _ _ _ _ Sh q
      have back : ∀ {Q : SD → MH → Prop} {s6 H6}, upS Yh (upd H1 a (ExL cls d a)) (mset M1 a (.exc cls fs)) (fun σ' M' => Q (σ'.set j none) M') s6 H6 → upS Y H M Q (s6.set j none) H6 := fun {Q s6 H6} ⟨σ6, M6, e6, S6, q6⟩ =>
        ⟨σ6.set j none, M6, (S1.e.trans X1).trans e6, up ((S1.e.trans X1).trans e6) S6.d (S6.s.wipe1 j), q6⟩
      exact semSs_mono z (fun _ _ z => back z) (fun v H6 ⟨w, M6, e6, d6, r6, q6⟩ => ⟨w, M6, (S1.e.trans X1).trans e6, d6, r6, q6⟩) (fun _ _ z => back z) fun _ _ z => back z
    have S' : Std Y' s H σ M := ⟨.refl _ _, S.d, S.s⟩
    have z := (hb wd' Y' F' rfl ⟨rfl, rfl, rfl, rfl, S.e⟩).run s H σ M D S' h
    have back : ∀ {Q : SD → MH → Prop} {s6 H6}, upS Y' H M Q s6 H6 → upS Y H M Q s6 H6 := fun {Q s6 H6} ⟨σ6, M6, e6, S6, q6⟩ => ⟨σ6, M6, e6, up e6 S6.d S6.s, q6⟩
    exact semSs_mono z (fun _ _ z => back z) (fun v H6 ⟨w, M6, e6, d6, r6, q6⟩ => ⟨w, M6, e6, d6, r6, q6⟩) (fun _ _ z => back z) fun _ _ z => back z
theorem s_tryW {wd : Value → XF → SD → MH → Prop} (hw : Y.wd = wd) (F : Fm g i k Y) (j : Nat) {x n : Str} {c : Value} {body suite : List Stmt} {b₀ : Stmt} {np pos pos' : Pos} {tb : (Value → XF → SD → MH → Prop) → TSd} {ts : TSd} (jx : Nat) (N : ENm g x c)
    (hb : ∀ wd' (Y' : Dx), Fm g i k Y' → Y'.wd = wd' → QSs Y' body (tb wd')) (hs : ∀ Y' : Dx, Fm g { i with hot := true } k Y' → Y'.wd = noWd → QSs Y' (b₀ :: suite) ts)
    (hN : i.N[j]? = some n := by rfl) (hl : i.loc.contains j = true := by rfl) (hx : i.gls[jx]? = some x := by rfl) (hbk : i.blk = false := by rfl) :
    QS Y (.Try body [.ExceptHandler (some (.Name x np)) (some n) (b₀ :: suite) pos'] [] [] pos) (tTry g.K c j tb ts wd) := s_tryS hw F j jx N (fun wd' Y' F' h _ => hb wd' Y' F' h) hs hN hl hx hbk
end
end Dl
set_option Elab.async false
set_option linter.all false
set_option maxRecDepth 100000
/-! zip, enumerate over lists and tuples in any mix -/
namespace Zm
open PySem PySem.Spec PyProof.Rows L2
/-- an iterator of the kind: of a tuple (true), of a list -/
def SI (t : Bool) (h : Heap) (it l : Addr) (i : Nat) : Prop := match t with | true => h.IsTupleIter it l i | false => h.IsListIter it l i
def SQ (t : Bool) (h : Heap) (l : Addr) (items : Array Value) : Prop := match t with | true => h.IsTuple l items | false => h.IsList l items
def SqX (t : Bool) (K : PySem.W.Frag) (H : Hp) (a : Addr) (xs : List V) : Prop := match t with | true => SqT K H a xs | false => SqL K H a xs
def iterO (t : Bool) (l : Addr) : Obj := { cls := .type (match t with | true => "tuple_iterator" | false => "list_iterator"), data := .fields #[.ref l, .int 0 0] }
theorem SI.obj {t : Bool} {h : Heap} {it l : Addr} {i : Nat} (x : SI t h it l i) : ∃ o, h.get? it = some o ∧ ∀ v, o.data ≠ .cell v := by
  cases t <;> (obtain ⟨o, e, _, d⟩ := x; exact ⟨o, e, fun v q => by rw [d] at q; cases q⟩)
theorem SI.keeps {t : Bool} {h h' : Heap} {it l : Addr} {i : Nat} (x : SI t h it l i) (k : ∀ o, h.get? it = some o → h'.get? it = some o) : SI t h' it l i := by
  cases t
  · exact Heap.IsListIter.at x k
  · exact Heap.IsTupleIter.at x k
theorem SI.start {t : Bool} {h : Heap} {it l : Addr} (x : h.get? it = some (iterO t l)) : SI t h it l 0 := by
  cases t <;> exact ⟨_, x, rfl, rfl⟩
theorem SQ.lt {t : Bool} {h : Heap} {l : Addr} {its : Array Value} (x : SQ t h l its) : l < h.objs.size := by
  cases t <;> (obtain ⟨o, e, _⟩ := x; exact Heap.lt_size e)
theorem draws (t : Bool) {prog : Program} {w : World} {A : Around} (hh : A.handled = none) (it l : Addr) (hne : l ≠ it) (items : Array Value) :
    Draws prog w A it [it, l] items.size (fun i v => items[i]? = some v) (fun i h => SI t h it l i ∧ SQ t h l items) := by
  cases t
  · exact Draws.list hh it l hne items
  · exact Draws.tuple hh it l hne items
theorem begins (t : Bool) (l : Addr) (items : Array Value) : Begins (.ref l) (iterO t l) fun h => SQ t h l items := by
  cases t
  · exact begins_list l items
  · exact begins_tuple l items
section
variable {X : Cx} {pins : List (Addr × Obj)} {σ : L2.St} {H : Hp} {s : Shared}
theorem seq_of {t : Bool} {a : Addr} {xs : List V} (I : Inv X pins σ H s) (h : SqX t X.K H a xs) : ∃ its : List Value, Vals xs its ∧ SQ t s.heap a its.toArray ∧ its.length ≤ sizeLine := by
  cases t
  · obtain ⟨its, rv, p, hz⟩ := I.list h
    exact ⟨its, rv, p.isList, by have := rv.length; omega⟩
  · obtain ⟨its, rv, p, hz⟩ := I.tuple h
    exact ⟨its, rv, p, by have := rv.length; omega⟩
theorem seq_inj {t : Bool} {a : Addr} {xs ys : List V} (I : Inv X pins σ H s) (h : SqX t X.K H a xs) (k : SqX t X.K H a ys) : xs = ys := by
  cases t
  · exact I.list_inj h k
  · exact I.tuple_inj h k
end
/-- a Turn by what the library says of walks that lay tuples -/
theorem turn_of {P : Program} {w : World} {K : PySem.W.Frag} {elts : List Expr} {kk : Nat} {tpos : Pos} {J : It} {fp : List Addr} {it : Addr} {tn : Nat → Heap → Prop} (mem : it ∈ fp) (obj : ∀ i h, tn i h → ∀ b ∈ fp, ∃ o, h.get? b = some o ∧ ∀ v, o.data ≠ .cell v)
    (keep : ∀ i h h', tn i h → (∀ b ∈ fp, ∀ o, h.get? b = some o → h'.get? b = some o) → tn i h')
    (item : ∀ (X : Cx), X.prog = P → X.w = w → X.K = K → X.A.handled = none → ∀ (i : Nat) (pins : List (Addr × Obj)) (s : Shared) (σ : L2.St) (H : Hp), Inv X pins σ H s → (∀ b ∈ fp, H b = none) → tn i s.heap → J.go i H →
      ∃ (fp' wr : List Addr) (n : Nat) (Pt : Nat → Array Value → Prop) (St : Nat → Heap → Prop) (Mid : Nat → Addr → Heap → Prop), WalksT P w X.A it fp' wr n Pt St Mid ∧ i < n ∧ St i s.heap ∧ (∀ b ∈ wr, b ∈ fp) ∧ (∀ h, St (i + 1) h → tn (i + 1) h) ∧
        ∀ vals, Pt i vals → ∃ vs : List V, Vals vs vals.toList ∧ vals.size ≤ sizeLine ∧ ∀ T, H T = none → J.yld i H (.ref T) (upd H T (.tup vs)))
    (done : ∀ (X : Cx), X.prog = P → X.w = w → X.K = K → X.A.handled = none → ∀ (i : Nat) (pins : List (Addr × Obj)) (s : Shared) (σ : L2.St) (H : Hp), Inv X pins σ H s → (∀ b ∈ fp, H b = none) → tn i s.heap → J.stop i H →
      ∃ (wr : List Addr), (∀ b ∈ wr, b ∈ fp) ∧ ∀ (Q : Option Value → Shared → Prop) (E : Value → Shared → Prop), (∀ h' tk, (∀ b o, b ∉ wr → s.heap.get? b = some o → h'.get? b = some o) → Q none { s with heap := h', toks := tk }) → wpAny (model P w) X.A (pyNext (.ref it)) Q E s)
    (self : ∀ (A : Around) (i : Nat) (s : Shared) (Q : Value → Shared → Prop) (E : Value → Shared → Prop), tn i s.heap → Q (.ref it) s → wpAny (model P w) A (pyIter (.ref it)) Q E s) : Turn P w K (.Tuple elts kk tpos) J fp it tn where
  mem := mem
  obj := obj
  keep := keep
  item := by
    intro X hP hw hK hc i pins s σ H E I hf st hg
    obtain ⟨fp', wr, n, Pt, St, Mid, W, hi, hst, hwr, hn, hv⟩ := item X hP hw hK (I.ok.hd hc) i pins s σ H I (fun b hb => (hf b hb).1) st hg
    have lt : ∀ b ∈ fp, b < s.heap.objs.size := fun b hb => by
      obtain ⟨o, e, _⟩ := obj i _ st b hb
      exact Heap.lt_size e
    refine W.item i s _ E hi hst fun T vals h' tk hp hT tup mid k => ?_
    refine ⟨_, rfl, W.go elts kk tpos i T { s with heap := h', toks := tk } _ E mid fun h'' hs k2 => ?_⟩
    obtain ⟨vs, rv, hz, yld⟩ := hv vals hp
    have hTn : T ∉ wr := W.apart i T h' mid
    have tup2 : h''.IsTuple T vals := by
      obtain ⟨o, ho, hc', m, hd⟩ := tup
      exact ⟨o, k2 T o hTn ho, hc', m, hd⟩
    have new : ObjOk X.prog X.w (upd H T (.tup vs)) h'' T (.tup vs) := by
      obtain ⟨o, ho, hc', m, hd⟩ := tup2
      exact ⟨by rw [rv.length]; simpa using hz, vals.toList, rv, ⟨o, ho, hc', m, by simpa using hd⟩⟩
    have hn0 : H T = none := I.hok.fresh hT
    have I1 : Inv X pins σ (upd H T (.tup vs)) { s with heap := h'', toks := tk } := I.turnedNew (ch := fp) (fun b o hb q => k2 b o (fun z => hb (hwr b z)) (k b o (fun z => hb (hwr b z)) q)) hf hT new
    refine ⟨.ref T, _, I1, rfl, yld T hn0, hn _ hs, fun b hb => ?_⟩
    rw [upd_ne (Nat.ne_of_lt (Nat.lt_of_lt_of_le (lt b hb) hT))]
    exact (hf b hb).1
  done := by
    intro X hP hw hK hc i pins s σ H E I hf st hg
    obtain ⟨wr, hwr, go⟩ := done X hP hw hK (I.ok.hd hc) i pins s σ H I (fun b hb => (hf b hb).1) st hg
    exact go _ _ fun h' tk k => ⟨rfl, I.turnedL (ch := fp) (fun b o hb q => k b o (fun z => hb (hwr b z)) q) hf⟩
  self := self

/-! ### zip -/
def Itm (K : PySem.W.Frag) (t1 t2 : Bool) (a b : Addr) : It :=
  ⟨fun i H => ∃ (xs ys : List V) (x y : V), SqX t1 K H a xs ∧ SqX t2 K H b ys ∧ xs[i]? = some x ∧ ys[i]? = some y,
    fun i H v H' => ∃ T x y, v = .ref T ∧ H T = none ∧ H' = upd H T (.tup [x, y]) ∧ (∀ xs, SqX t1 K H a xs → xs[i]? = some x) ∧ ∀ ys, SqX t2 K H b ys → ys[i]? = some y,
    fun i H => ∃ xs ys : List V, SqX t1 K H a xs ∧ SqX t2 K H b ys ∧ i ≤ xs.length ∧ i ≤ ys.length ∧ (i = xs.length ∨ i = ys.length)⟩
theorem turn_zipM {P : Program} {w : World} {K : PySem.W.Frag} {elts : List Expr} {kk : Nat} {tpos : Pos} (t1 t2 : Bool) {a b z TI TO i1 i2 : Addr} (D : ZipSep2 z TI TO i1 i2 [i1, a] [i2, b]) (n1 : a ≠ i1) (n2 : b ≠ i2) :
    Turn P w K (.Tuple elts kk tpos) (Itm K t1 t2 a b) [z, TI, TO, i1, i2] z (fun i h => IsZip h z TI TO .none ∧ IsTupOf2 h TI (.ref i1) (.ref i2) ∧ (∃ x y, IsTupOf2 h TO x y) ∧ SI t1 h i1 a i ∧ SI t2 h i2 b i) := by
  refine turn_of (by simp) ?_ ?_ ?_ ?_ ?_
  · intro i h st c hc
    obtain ⟨hz, hTI, ⟨x, y, hTO⟩, h1, h2⟩ := st
    have e' : c = z ∨ c = TI ∨ c = TO ∨ c = i1 ∨ c = i2 := by simpa using hc
    rcases e' with q | q | q | q | q
    · subst q; exact ⟨_, hz, fun v q => nomatch q⟩
    · subst q; exact ⟨_, hTI, fun v q => nomatch q⟩
    · subst q; exact ⟨_, hTO, fun v q => nomatch q⟩
    · subst q; exact h1.obj
    · subst q; exact h2.obj
  · intro i h h' st k
    obtain ⟨hz, hTI, ⟨x, y, hTO⟩, h1, h2⟩ := st
    exact ⟨k z (by simp) _ hz, k TI (by simp) _ hTI, ⟨x, y, k TO (by simp) _ hTO⟩, h1.keeps fun o q => k i1 (by simp) o q, h2.keeps fun o q => k i2 (by simp) o q⟩
  · intro X hP hw hK hh i pins s σ H I hf st hg
    subst hP hw hK
    obtain ⟨hz, hTI, hTO, h1, h2⟩ := st
    obtain ⟨xs, ys, x, y, hqx, hqy, hx, hy⟩ := hg
    obtain ⟨its, rv, p, l1⟩ := seq_of I hqx
    obtain ⟨its2, rv2, p2, l2⟩ := seq_of I hqy
    obtain ⟨u, hu, ru⟩ := rv.get hx
    obtain ⟨u2, hu2, ru2⟩ := rv2.get hy
    have lu := (List.getElem?_eq_some_iff.mp hu).1
    have lu2 := (List.getElem?_eq_some_iff.mp hu2).1
    refine ⟨_, _, _, _, _, _, WalksT.zipD2 D (draws t1 (A := X.A.in1) hh i1 a n1 its.toArray) (draws t2 (A := X.A.in1) hh i2 b n2 its2.toArray), by simp; omega, ⟨hz, hTI, hTO, ⟨h1, p⟩, ⟨h2, p2⟩⟩, fun c hc => ?_, fun h q => ⟨q.1, q.2.1, q.2.2.1, q.2.2.2.1.1, q.2.2.2.2.1⟩, ?_⟩
    · simp only [List.mem_cons, List.not_mem_nil, or_false] at hc ⊢
      rcases hc with q | q | q | q <;> simp [q]
    · rintro vals ⟨v1, v2, hv1, hv2, rfl⟩
      have e1 : v1 = u := by
        have : its[i]? = some v1 := by simpa using hv1
        rw [hu] at this
        exact (Option.some.inj this).symm
      have e2 : v2 = u2 := by
        have : its2[i]? = some v2 := by simpa using hv2
        rw [hu2] at this
        exact (Option.some.inj this).symm
      subst e1 e2
      refine ⟨[x, y], .cons ru (.cons ru2 .nil), by rw [sizeLine_eq]; show 2 ≤ 16777216; decide, fun T hT => ⟨T, x, y, rfl, hT, rfl, fun l hl => by rw [seq_inj I hl hqx]; exact hx, fun l hl => by rw [seq_inj I hl hqy]; exact hy⟩⟩
  · intro X hP hw hK hh i pins s σ H I hf st hg
    subst hP hw hK
    obtain ⟨hz, hTI, ⟨x0, y0, hTO⟩, h1, h2⟩ := st
    obtain ⟨xs, ys, hqx, hqy, hl1, hl2, hend⟩ := hg
    obtain ⟨its, rv, p, _⟩ := seq_of I hqx
    obtain ⟨its2, rv2, p2, _⟩ := seq_of I hqy
    have l1 := rv.length
    have l2 := rv2.length
    refine ⟨[z, TO, i1, i2], fun c hc => ?_, fun Q E k => ?_⟩
    · simp only [List.mem_cons, List.not_mem_nil, or_false] at hc ⊢
      rcases hc with q | q | q | q <;> simp [q]
    · refine wpAny_pyNext_zipD2_end (i := i) D (draws t1 (A := X.A.in1) hh i1 a n1 its.toArray) (draws t2 (A := X.A.in1) hh i2 b n2 its2.toArray) hz hTI hTO ⟨h1, p⟩ ⟨h2, p2⟩ (by simp; omega) (by simp; omega) (by simp; omega) fun h' tk kk => k h' tk fun c o hc e => ?_
      simp only [List.mem_cons, List.not_mem_nil, or_false, not_or] at hc
      exact kk c o hc.1 hc.2.1 hc.2.2.1 hc.2.2.2 e
  · intro A i s Q E st h
    exact wpAny_pyIter_zip st.1 h
def iZipM (K : PySem.W.Frag) (ta : TA) : TI := fun σ H R => ta σ H fun vs H1 => ∃ t1 t2 a b xs ys, vs = [.ref a, .ref b] ∧ SqX t1 K H1 a xs ∧ SqX t2 K H1 b ys ∧ R (Itm K t1 t2 a b) H1
theorem pi_zipM {X : Cx} {e e2 : Expr} {ta : TA} {p pos tpos : Pos} {elts : List Expr} {kk : Nat} (hg : Gl X "zip") (hm : X.mg "zip" = none) (ha : PA X [e, e2] ta)
    (hs : starEach [e, e2] X.env = (false, eval e X.env) :: starEach [e2] X.env := by rfl) (hpl : (backTo pos (starEach [e2] X.env)).any (·.1) = false := by rfl) :
    PI X (.Tuple elts kk tpos) (.Call (.Name "zip" p) [e, e2] [] pos) (iZipM X.K ta) := by
  refine ⟨fun pins s σ H R I h => ?_⟩
  refine Call_ (ld_blt I hg hm PyProof.Rows.boot_zip (PyProof.Rows.callWith_type1 (thn (ha.run pos pins s σ H _ I h) fun us s1 ⟨vs, H1, I1, r1, q1⟩ => ?_) hs hpl))
  obtain ⟨t1, t2, a, b, xs, ys, rfl, hqx, hqy, q⟩ := q1
  cases r1 with
  | cons r rr =>
    cases rr with
    | cons r' rr =>
      cases rr
      cases r
      cases r'
      obtain ⟨its, rv, p1, _⟩ := seq_of I1 hqx
      obtain ⟨its2, rv2, p2, _⟩ := seq_of I1 hqy
      have la := p1.lt
      have lb := p2.lt
      refine zip_begins2 (begins t1 a its.toArray) (begins t2 b its2.toArray) p1 p2 fun h' hz hTI hTO h1 h2 hsz hk => wpAny_pyIter_zip hz ?_
      have I2 : Inv X pins σ H1 { s1 with heap := h' } := I1.kept (t' := s1.toks) hk
      refine ⟨s1.heap.objs.size + 4, [s1.heap.objs.size + 4, s1.heap.objs.size + 2, s1.heap.objs.size + 3, s1.heap.objs.size, s1.heap.objs.size + 1], _, _, H1, rfl, I2,
        turn_zipM t1 t2 (zip_sep2 (fp1 := [a]) (fp2 := [b]) (by simpa using la) (by simpa using lb)) (Nat.ne_of_lt la) (Nat.ne_of_lt (Nat.lt_succ_of_lt lb)), ⟨hz, hTI, ⟨_, _, hTO⟩, .start h1, .start h2⟩, fun c hcm => ?_, q⟩
      have hle : s1.heap.objs.size ≤ c := by
        simp only [List.mem_cons, List.not_mem_nil, or_false] at hcm
        rcases hcm with z | z | z | z | z <;> rw [z]
        · exact Nat.le_add_right _ _
        · exact Nat.le_add_right _ _
        · exact Nat.le_add_right _ _
        · exact Nat.le_refl _
        · exact Nat.le_add_right _ _
      exact I1.fpOk hle (I1.hok.fresh hle)

/-! ### enumerate -/
def Itn (K : PySem.W.Frag) (t : Bool) (a : Addr) : It :=
  ⟨fun i H => ∃ (xs : List V) (x : V), SqX t K H a xs ∧ xs[i]? = some x,
    fun i H v H' => ∃ T x, v = .ref T ∧ H T = none ∧ H' = upd H T (.tup [.int (i : Nat), x]) ∧ ∀ xs, SqX t K H a xs → xs[i]? = some x,
    fun i H => ∃ xs : List V, SqX t K H a xs ∧ i = xs.length⟩
theorem turn_enumM {P : Program} {w : World} {K : PySem.W.Frag} {elts : List Expr} {kk : Nat} {tpos : Pos} (t : Bool) {a e it : Addr} (ne : e ≠ it) (na : a ≠ it) (ea : e ≠ a) :
    Turn P w K (.Tuple elts kk tpos) (Itn K t a) [e, it] e (fun i h => (∃ old, IsEnum h e it ((i : Nat) : Int) old) ∧ SI t h it a i) := by
  refine turn_of (by simp) ?_ ?_ ?_ ?_ ?_
  · intro i h st c hc
    obtain ⟨⟨old, he⟩, h1⟩ := st
    have e' : c = e ∨ c = it := by simpa using hc
    rcases e' with q | q
    · subst q; exact ⟨_, he, fun v q => nomatch q⟩
    · subst q; exact h1.obj
  · intro i h h' st k
    obtain ⟨⟨old, he⟩, h1⟩ := st
    exact ⟨⟨old, k e (by simp) _ he⟩, h1.keeps fun o q => k it (by simp) o q⟩
  · intro X hP hw hK hh i pins s σ H I hf st hg
    subst hP hw hK
    obtain ⟨⟨old, he⟩, h1⟩ := st
    obtain ⟨xs, x, hqx, hx⟩ := hg
    obtain ⟨its, rv, p, l1⟩ := seq_of I hqx
    obtain ⟨u, hu, ru⟩ := rv.get hx
    have lu := (List.getElem?_eq_some_iff.mp hu).1
    refine ⟨_, _, _, _, _, _, WalksT.enumFrom 0 (draws t (A := X.A.in1) hh it a na its.toArray) e ne (by simp [ne, ea]) (by simp), by simpa using lu, ⟨⟨old, by rw [Int.zero_add]; exact he⟩, h1, p⟩, fun c hc => hc, fun h q => ⟨by obtain ⟨⟨o, z⟩, _⟩ := q; exact ⟨o, by rw [Int.zero_add] at z; exact z⟩, q.2.1⟩, ?_⟩
    rintro vals ⟨k, v1, hv1, rfl⟩
    have e1 : v1 = u := by
      have : its[i]? = some v1 := by simpa using hv1
      rw [hu] at this
      exact (Option.some.inj this).symm
    subst e1
    exact ⟨[.int (i : Nat), x], .cons ⟨_, by rw [Int.zero_add]⟩ (.cons ru .nil), by rw [sizeLine_eq]; show 2 ≤ 16777216; decide, fun T hT => ⟨T, x, rfl, hT, rfl, fun l hl => by rw [seq_inj I hl hqx]; exact hx⟩⟩
  · intro X hP hw hK hh i pins s σ H I hf st hg
    subst hP hw hK
    obtain ⟨⟨old, he⟩, h1⟩ := st
    obtain ⟨xs, hqx, hend⟩ := hg
    obtain ⟨its, rv, p, _⟩ := seq_of I hqx
    have l1 := rv.length
    have W := WalksT.enumFrom (prog := X.prog) (w := X.w) (A := X.A) 0 (draws t (A := X.A.in1) hh it a na its.toArray) e ne (by simp [ne, ea]) (by simp)
    refine ⟨[e, it], fun c hc => hc, fun Q E k => W.done s Q E ?_ k⟩
    have en : its.toArray.size = i := by simp; omega
    rw [en]
    exact ⟨⟨old, by rw [Int.zero_add]; exact he⟩, h1, p⟩
  · intro A i s Q E st h
    obtain ⟨⟨old, he⟩, _⟩ := st
    exact wpAny_pyIter_enum he h
theorem meets_enum1 {v : Value} {o : Obj} {H : Heap → Prop} (B : Begins v o H) :
    Meets (Builtin.«enumerate.__new__» ⟨[.type "enumerate", v], []⟩) (fun _ R s => H s.heap ∧
      R (.ok (.ret (.ref (s.heap.push o).objs.size))) { s with heap := (s.heap.push o).push { cls := .type "enumerate", data := .fields #[.none, .bool false, .ref s.heap.objs.size, rawInt 0, .none, .none] } }) :=
  .of_wp fun prog w A R s h => by
    obtain ⟨hp, g, d, tk, os⟩ := s
    obtain ⟨h1, h⟩ := h
    have hsub := sub_enumerate
    have go : ∀ {A' : Around} {E : Value → Shared → Prop} {Q : Value → Shared → Prop}, Q (.ref hp.objs.size) ⟨hp.push o, g, d, tk, os⟩ → wpAny (model prog w) A' (pyIter v) Q E ⟨hp, g, d, tk, os⟩ :=
      fun q => B.iter prog w _ _ ⟨hp, g, d, tk, os⟩ _ h1 q
    wp_walk using go
    refine wpAny_stack_any fun st => wpAny_pure ?_
    split
    · rename_i c _ _ _ _ _
      cases (c == Value.type "enumerate") <;> (wp_walk using go; exact ⟨_, rfl, h⟩)
    · wp_walk using go
      exact ⟨_, rfl, h⟩
def iEnumM (K : PySem.W.Frag) (ta : TA) : TI := fun σ H R => ta σ H fun vs H1 => ∃ t a xs, vs = [.ref a] ∧ SqX t K H1 a xs ∧ R (Itn K t a) H1
theorem pi_enumM {X : Cx} {e : Expr} {ta : TA} {p pos tpos : Pos} {elts : List Expr} {kk : Nat} (hg : Gl X "enumerate") (hm : X.mg "enumerate" = none) (ha : PA X [e] ta)
    (hs : starEach [e] X.env = [(false, eval e X.env)] := by rfl) :
    PI X (.Tuple elts kk tpos) (.Call (.Name "enumerate" p) [e] [] pos) (iEnumM X.K ta) := by
  refine ⟨fun pins s σ H R I h => ?_⟩
  refine Call_ (ld_blt I hg hm boot_enumerate (PyProof.Rows.callWith_type1 (thn (ha.run pos pins s σ H _ I h) fun us s1 ⟨vs, H1, I1, r1, q1⟩ => ?_) hs rfl))
  obtain ⟨t, a, xs, rfl, hqx, q⟩ := q1
  cases r1 with
  | cons r rr =>
    cases rr
    cases r
    obtain ⟨its, rv, p1, _⟩ := seq_of I1 hqx
    have la := p1.lt
    refine callType_new F.called_enumerate (by decide) (F.typeCall_enumerate_1 _) (F.newCall_enumerate_1 _) (fun obj => F.args_object_init_2 obj _) F.entry_enumerate_new (meets_enum1 (begins t a its.toArray)) ⟨p1, ?_⟩
    have z1 : (s1.heap.push (iterO t a)).objs.size = s1.heap.objs.size + 1 := Heap.size_push ..
    obtain ⟨h', hh'⟩ : ∃ h', h' = (s1.heap.push (iterO t a)).push { cls := .type "enumerate", data := .fields #[.none, .bool false, .ref s1.heap.objs.size, rawInt 0, .none, .none] } := ⟨_, rfl⟩
    have he : IsEnum h' (s1.heap.objs.size + 1) s1.heap.objs.size 0 .none := by
      rw [hh', ← z1]
      exact Heap.get?_push_size _ rfl
    have h1 : h'.get? s1.heap.objs.size = some (iterO t a) := by
      rw [hh']
      exact Heap.get?_push_of_some _ (Heap.get?_push_size _ rfl)
    have hk : ∀ b o, s1.heap.get? b = some o → h'.get? b = some o := fun b o x => by
      rw [hh']
      exact Heap.get?_push_of_some _ (Heap.get?_push_of_some _ x)
    rw [z1, ← hh']
    refine ⟨⟨_, he, rfl⟩, wpAny_pyIter_enum he ?_⟩
    have I2 : Inv X pins σ H1 { s1 with heap := h' } := I1.kept (t' := s1.toks) hk
    refine ⟨s1.heap.objs.size + 1, [s1.heap.objs.size + 1, s1.heap.objs.size], _, _, H1, rfl, I2, turn_enumM t (Nat.succ_ne_self _) (Nat.ne_of_lt la) (Nat.ne_of_gt (Nat.lt_succ_of_lt la)), ⟨⟨.none, he⟩, .start h1⟩, fun c hcm => ?_, q⟩
    have hle : s1.heap.objs.size ≤ c := by
      simp only [List.mem_cons, List.not_mem_nil, or_false] at hcm
      rcases hcm with z | z <;> rw [z]
      · exact Nat.le_add_right _ _
      · exact Nat.le_refl _
    exact I1.fpOk hle (I1.hok.fresh hle)
end Zm
set_option Elab.async false
set_option linter.all false
set_option maxRecDepth 100000
/-! dicts with keys of tuples -/
namespace Dl
open PySem PySem.Spec PyProof.Rows L2
/-- what stands at a key -/
def nAt : List (NestedKey × W) → NestedKey → Option W
  | [], _ => none
  | q :: r, k => if q.1 = k then some q.2 else nAt r k
theorem nAt_cons (q : NestedKey × W) (r : List (NestedKey × W)) (k : NestedKey) : nAt (q :: r) k = if q.1 = k then some q.2 else nAt r k := rfl
theorem atKey_cons (x : NestedKey × Addr × Value) (r : List (NestedKey × Addr × Value)) (k : NestedKey) : atKey (x :: r) k = if x.1 = k then some x.2 else atKey r k := by
  unfold atKey
  rw [List.find?_cons]
  by_cases e : x.1 = k
  · rw [if_pos e, decide_eq_true e]; rfl
  · rw [if_neg e, decide_eq_false e]
def nHas (kvs : List (NestedKey × W)) (k : NestedKey) : Bool := (nAt kvs k).isSome
/-- .. stored -/
def nPut (kvs : List (NestedKey × W)) (k : NestedKey) (w : W) : List (NestedKey × W) := if nHas kvs k = true then kvs.map fun q => if q.1 = k then (q.1, w) else q else kvs ++ [(k, w)]
theorem nHas_mem {kvs : List (NestedKey × W)} {k : NestedKey} : nHas kvs k = true ↔ k ∈ kvs.map (·.1) := by
  induction kvs with
  | nil => simp [nHas, nAt]
  | cons q r ih =>
    unfold nHas at ih ⊢
    rw [nAt_cons, List.map_cons, List.mem_cons]
    by_cases e : q.1 = k
    · rw [if_pos e]
      exact ⟨fun _ => .inl e.symm, fun _ => rfl⟩
    · rw [if_neg e, ih]
      exact ⟨.inr, fun z => z.resolve_left fun z => e z.symm⟩
theorem nPut_keys (kvs : List (NestedKey × W)) (k : NestedKey) (w : W) : (nPut kvs k w).map (·.1) = if nHas kvs k = true then kvs.map (·.1) else kvs.map (·.1) ++ [k] := by
  unfold nPut
  split
  · rw [List.map_map]
    apply List.map_congr_left
    intro q _
    simp only [Function.comp]
    split <;> rfl
  · simp
section
variable {K : PySem.W.Frag} {H : Hp} {M : MH}
theorem RN.at {xs : List (NestedKey × Addr × Value)} {kvs : List (NestedKey × W)} (h : Paired (RN K H M) xs kvs) (k : NestedKey) : (atKey xs k = none ∧ nAt kvs k = none) ∨ ∃ p w v, atKey xs k = some p ∧ nAt kvs k = some w ∧ RelV v p.2 ∧ Wv K H M v w := by
  induction h with
  | nil => exact .inl ⟨rfl, rfl⟩
  | @cons x q xs kvs r t ih =>
    obtain ⟨h1, h2, h3, v, h4, h5⟩ := r
    rw [nAt_cons, atKey_cons, h1]
    by_cases e : q.1 = k
    · rw [if_pos e, if_pos e]
      exact .inr ⟨x.2, q.2, v, rfl, rfl, h4, h5⟩
    · rw [if_neg e, if_neg e]
      exact ih
theorem RN.put {xs : List (NestedKey × Addr × Value)} {kvs : List (NestedKey × W)} (h : Paired (RN K H M) xs kvs) {k : NestedKey} {b : Addr} {u : Value} {v : V} {w : W} (hk : Fz K H M (.ref b) k.data) (hd : k.depth ≤ 8) (ru : RelV v u) (rw' : Wv K H M v w) :
    Paired (RN K H M) (storedH xs k b u) (nPut kvs k w) := by
  have e : (atKey xs k).isSome = nHas kvs k := by
    unfold nHas
    rcases RN.at h k with ⟨z1, z2⟩ | ⟨p, w', v', z1, z2, _⟩ <;> rw [z1, z2] <;> rfl
  have c1 : Paired (RN K H M) (xs.map (putAt k u)) (kvs.map fun q => if q.1 = k then (q.1, w) else q) := by
    clear e
    induction h with
    | nil => exact .nil
    | @cons x q xs kvs r t ih =>
      refine .cons ?_ ih
      obtain ⟨h1, h2, h3, v', h4, h5⟩ := r
      unfold putAt
      by_cases e : q.1 = k
      · rw [if_pos (h1.trans e)]
        dsimp only
        rw [if_pos e]
        exact ⟨h1, h2, h3, v, ru, rw'⟩
      · rw [if_neg (fun z => e (h1 ▸ z))]
        dsimp only
        rw [if_neg e]
        exact ⟨h1, h2, h3, v', h4, h5⟩
  have c2 : Paired (RN K H M) (xs ++ [(k, b, u)]) (kvs ++ [(k, w)]) := by
    clear e c1
    induction h with
    | nil => exact .cons ⟨rfl, hk, hd, v, ru, rw'⟩ .nil
    | cons r t ih => exact .cons r ih
  unfold storedH nPut
  rw [e]
  split
  · exact c1
  · exact c2
end
section
variable {X : Cx} {pins : List (Addr × Obj)} {s : L2.St} {H : Hp} {sh : Shared} {M : MH}
mutual
theorem Fz.nested (I : Inv X pins s H sh) : ∀ (k : NestedKey) (v : V) (u : Value), Fz X.K H M v k.data → RelV v u → NestedIs sh.heap k u
  | .none, _, _, h, r => by cases h; cases r; exact .none
  | .num i, _, _, h, r => by cases h; obtain ⟨t, rfl⟩ := r; exact .int i t
  | .text x, _, _, h, r => by cases h; obtain ⟨t, rfl⟩ := r; exact .text x t
  | .tup ks, _, _, h, r => by
    cases h with
    | tup hs ha =>
      cases r
      obtain ⟨its, rv, ⟨o, ho, hc, n, hd⟩, _⟩ := I.tuple hs.sq
      exact .tup ho hc hd (by simpa using FzA.nested I ks _ its ha rv)
theorem FzA.nested (I : Inv X pins s H sh) : ∀ (ks : List NestedKey) (vs : List V) (us : List Value), FzA X.K H M vs (NestedKey.datas ks) → Vals vs us → NestedAll sh.heap ks us
  | [], _, _, h, r => by cases h; cases r; exact .nil
  | k :: ks, _, _, h, r => by
    cases h with
    | cons h1 h2 =>
      cases r with
      | cons r1 r2 => exact .cons (Fz.nested I k _ _ h1 r1) (FzA.nested I ks _ _ h2 r2)
end
end
section
variable {g : Gc} {i : Si} {k : Nat} {Y : Dx}
theorem RN.keys {K : PySem.W.Frag} {H : Hp} {M : MH} {xs : List (NestedKey × Addr × Value)} {kvs : List (NestedKey × W)} (h : Paired (RN K H M) xs kvs) : xs.map (·.1) = kvs.map (·.1) := by
  induction h with
  | nil => rfl
  | cons r t ih => rw [List.map_cons, List.map_cons, r.1, ih]
theorem RN.is {X : Cx} {s : L2.St} {H : Hp} {M : MH} {pins : List (Addr × Obj)} {sh : Shared} (I : Inv X pins s H sh) {xs : List (NestedKey × Addr × Value)} {kvs : List (NestedKey × W)} (h : Paired (RN X.K H M) xs kvs) : ∀ x ∈ xs, (nestedKind X.prog X.w).is sh.heap x.1 x.2.1 := by
  induction h with
  | nil => intro x hx; cases hx
  | @cons y q ys ks r t ih =>
    intro x hx
    rcases List.mem_cons.mp hx with e | hx
    · subst e
      obtain ⟨z1, z2, z3, v, z4, z5⟩ := r
      refine ⟨?_, by rw [z1]; exact z3⟩
      rw [z1]
      exact Fz.nested I q.1 _ _ z2 rfl
    · exact ih x hx
/-- the dict stands in the heap -/
theorem dn_at {s : L2.St} {H : Hp} {M : MH} {pins : List (Addr × Obj)} {sh : Shared} {a : Addr} {kvs : List (NestedKey × W)} (I : Inv Y.X pins s H sh) (D : Dok Y.X.K H M) (hm : M a = some (.dN Y.X.prog Y.X.w kvs)) :
    ∃ xs, H a = some (DctN Y.X.prog Y.X.w xs a) ∧ kvs.length ≤ sizeLine ∧ (a == sysModules) = false ∧ (kvs.map (·.1)).Nodup ∧ Paired (RN Y.X.K H M) xs kvs ∧ sh.heap.DictOfH (nestedKind Y.X.prog Y.X.w) a xs := by
  obtain ⟨xs, h1, h2, h3, h4, h5⟩ := D a _ hm
  refine ⟨xs, h1, h2, h3, h4, h5, ?_⟩
  have hh := I.hok a _ h1
  obtain ⟨o, es, ep, e1, e2, e3, e4⟩ := hh.1
  exact ⟨o, es, ep, e1, e2, e3, e4, RN.is I h5, by rw [RN.keys h5]; exact h4⟩
/-- what stands behind a store -/
theorem dn_put {s : L2.St} {H : Hp} {M : MH} {pins : List (Addr × Obj)} {sh : Shared} {a : Addr} {kvs kvs' : List (NestedKey × W)} {xs' : List (NestedKey × Addr × Value)} {h' : Heap} {t' : Nat} (I : Inv Y.X pins s H sh) (D : Dok Y.X.K H M) (hm : M a = some (.dN Y.X.prog Y.X.w kvs))
    (hx : h'.DictOfH (nestedKind Y.X.prog Y.X.w) a xs') (sb : Heap.SameBut a sh.heap h') (hl : kvs'.length ≤ sizeLine) (hn : (kvs'.map (·.1)).Nodup) (hp : Paired (RN Y.X.K H M) xs' kvs') :
    Inv Y.X pins s (upd H a (DctN Y.X.prog Y.X.w xs' a)) { sh with heap := h', toks := t' } ∧ Ext H M (upd H a (DctN Y.X.prog Y.X.w xs' a)) (mset M a (.dN Y.X.prog Y.X.w kvs')) ∧ Dok Y.X.K (upd H a (DctN Y.X.prog Y.X.w xs' a)) (mset M a (.dN Y.X.prog Y.X.w kvs')) := by
  obtain ⟨xs, h1, h2, h3, h4, h5⟩ := D a _ hm
  obtain ⟨o, es, ep, e1, e2, e3, e4, _, _⟩ := hx
  have nn : M a ≠ none := by rw [hm]; exact fun z => by cases z
  have X : Ext H M (upd H a (DctN Y.X.prog Y.X.w xs' a)) (mset M a (.dN Y.X.prog Y.X.w kvs')) := ext_mut (.inl nn)
  refine ⟨d_write I (by rw [h1]; exact True.intro) sb ⟨o, e1⟩ ⟨⟨o, es, ep, e1, e2, e3, e4⟩, ⟨o, e1⟩, fun _ _ ⟨o', es', ep', z1, z2⟩ k => ⟨o', es', ep', k o' z1, z2⟩⟩, X, dok_mut (u := .dN Y.X.prog Y.X.w kvs') D (.inl nn) fun e => ⟨xs', upd_same, hl, h3, hn, Paired.mapP hp fun _ _ z => z.ext e⟩⟩

/-- d[k] -/
def tNGet (P : Program) (w : World) (to ti : TEd) : TEd := fun σ M Q => to σ M fun o M1 => ti σ M1 fun x M2 => match o, x with
  | .ref p, .d x => ∃ kvs k u, M2 p = some (.dN P w kvs) ∧ x = NestedKey.data k ∧ isTup x = true ∧ k.depth ≤ 8 ∧ nAt kvs k = some u ∧ Q u M2
  | _, _ => False
theorem tup_ref {K : PySem.W.Frag} {H : Hp} {M : MH} {v : V} {x : PyData} (h : Fz K H M v x) (t : isTup x = true) : ∃ b, v = .ref b := by
  cases x with
  | tuple ds => cases h; exact ⟨_, rfl⟩
  | _ => cases t
theorem q_nget (F : Fm g i k Y) {a b : Expr} {ta tb : TEd} {pos : Pos} (ha : QE Y a ta) (hb : QE Y b tb) (hs : NoSl b := by intro _ _; rfl) : QE Y (.Subscript a b pos) (tNGet g.P g.w ta tb) := by
  refine ⟨fun s H σ M Q S h pins sh I => ?_⟩
  refine subD_of (T := "dict") PySem.F.slot_dict_getitem.lookup hs (thn (ha.run _ _ _ _ _ S h pins sh I) fun v1 s1 ⟨x1, H1, I1, r1, w1, M1, e1, d1, rw1, q⟩ => ?_)
  refine thn (hb.run _ _ _ _ _ (S.go e1 d1) q pins s1 I1) fun v2 s2 ⟨x2, H2, I2, r2, w2, M2, e2, d2, rw2, q2⟩ => ?_
  dsimp only at q2
  split at q2
  · rename_i p x
    obtain ⟨kvs, kk, u, hm, hx, ht, hd, hat, q3⟩ := q2
    rw [← F.hP, ← F.hw] at hm
    obtain rfl := (show x1 = _ from rw1)
    cases r1
    obtain ⟨xs, _, _, _, _, hp, hdict⟩ := dn_at I2 d2 hm
    obtain ⟨b, rfl⟩ := tup_ref rw2 ht
    cases r2
    subst hx
    have hk : (nestedKind Y.X.prog Y.X.w).is s2.heap kk b := ⟨Fz.nested I2 kk _ _ rw2 rfl, hd⟩
    have hu : (nestedKind Y.X.prog Y.X.w).room Y.X.A.in1 := by have := F.room.un; show Y.X.A.units + 1 + 8 < cLine; omega
    refine ⟨hdict.typeIs, ?_⟩
    rcases RN.at hp kk with ⟨_, z⟩ | ⟨pp, w', v', z1, z2, z3, z4⟩
    · rw [z] at hat; cases hat
    · rw [z2] at hat
      cases hat
      exact wpAny_getItem_heap hu hk hdict z1 ⟨v', H2, I2.tok _, z3, _, M2, e1.trans e2, d2, z4, q3⟩
  · exact q2.elim
/-- k in d, k not in d -/
def rNin (P : Program) (w : World) (neg : Bool) : R2d := fun x o M Q => match x, o with
  | .d x, .ref p => ∃ kvs k, M p = some (.dN P w kvs) ∧ x = NestedKey.data k ∧ isTup x = true ∧ k.depth ≤ 8 ∧ Q (.d (.bool (if neg then !nHas kvs k else nHas kvs k))) M
  | _, _ => False
theorem o_nin (F : Fm g i k Y) : Op2 Y (compareOp .In) (rNin g.P g.w false) := by
  intro s H σ M x y a b Q S rx ry q
  unfold rNin at q
  split at q
  · intro pins sh s' v u I r1 r2
    obtain ⟨kvs, kk, hm, hx, ht, hd, q3⟩ := q
    rw [← F.hP, ← F.hw] at hm
    obtain rfl := (show y = _ from ry)
    cases r2
    obtain ⟨xs, _, _, hsys, _, hp, hdict⟩ := dn_at I S.d hm
    obtain ⟨b, rfl⟩ := tup_ref rx ht
    cases r1
    subst hx
    have hk : (nestedKind Y.X.prog Y.X.w).is sh.heap kk b := ⟨Fz.nested I kk _ _ rx rfl, hd⟩
    have hu : (nestedKind Y.X.prog Y.X.w).room Y.X.A.in1 := by have := F.room.un; show Y.X.A.units + 1 + 8 < cLine; omega
    refine wpAny_in_heap hu hk hsys hdict ⟨.bl _, H, I.tok _, rfl, S.here (wBool _) ?_⟩
    rcases RN.at hp kk with ⟨z1, z⟩ | ⟨pp, w', v', z1, z2, z3, z4⟩
    · rw [z1]; unfold nHas at q3; rw [z] at q3; exact q3
    · rw [z1]; unfold nHas at q3; rw [z2] at q3; exact q3
  · exact q.elim
theorem o_nnotin (F : Fm g i k Y) : Op2 Y (compareOp .NotIn) (rNin g.P g.w true) := by
  intro s H σ M x y a b Q S rx ry q
  unfold rNin at q
  split at q
  · intro pins sh s' v u I r1 r2
    obtain ⟨kvs, kk, hm, hx, ht, hd, q3⟩ := q
    rw [← F.hP, ← F.hw] at hm
    obtain rfl := (show y = _ from ry)
    cases r2
    obtain ⟨xs, _, _, hsys, _, hp, hdict⟩ := dn_at I S.d hm
    obtain ⟨b, rfl⟩ := tup_ref rx ht
    cases r1
    subst hx
    have hk : (nestedKind Y.X.prog Y.X.w).is sh.heap kk b := ⟨Fz.nested I kk _ _ rx rfl, hd⟩
    have hu : (nestedKind Y.X.prog Y.X.w).room Y.X.A.in1 := by have := F.room.un; show Y.X.A.units + 1 + 8 < cLine; omega
    refine wpAny_notIn_heap hu hk hsys hdict ⟨.bl _, H, I.tok _, rfl, S.here (wBool _) ?_⟩
    rcases RN.at hp kk with ⟨z1, z⟩ | ⟨pp, w', v', z1, z2, z3, z4⟩
    · rw [z1]; unfold nHas at q3; rw [z] at q3; exact q3
    · rw [z1]; unfold nHas at q3; rw [z2] at q3; exact q3
  · exact q.elim
/-- d[k] = v -/
def gNPut (P : Program) (w : World) (to ti : TEd) : TGd := fun v σ M Q => to σ M fun o M1 => ti σ M1 fun x M2 => match o, x with
  | .ref p, .d x => ∃ kvs k, M2 p = some (.dN P w kvs) ∧ x = NestedKey.data k ∧ isTup x = true ∧ k.depth ≤ 8 ∧ kvs.length < sizeLine ∧ Q σ (mset M2 p (.dN P w (nPut kvs k v)))
  | _, _ => False
def rNSet (Y : Dx) : TSet := fun o x v H Q => ∀ pins sh s ov iv u, Inv Y.X pins s H sh → RelV o ov → RelV x iv → RelV v u → wpAny (model Y.X.prog Y.X.w) Y.X.A (setItem ov iv u) (fun _ s' => ∃ H', Inv Y.X pins s H' s' ∧ Q H') Y.X.xe sh
theorem set_sem : PSet Y.X (rNSet Y) := fun pins s σ H o i v ov iv u Q I ro ri rv h => h pins s σ ov iv u I ro ri rv
theorem nPut_len (kvs : List (NestedKey × W)) (k : NestedKey) (w : W) : (nPut kvs k w).length ≤ kvs.length + 1 := by
  unfold nPut
  split
  · rw [List.length_map]; omega
  · simp
theorem nPut_nodup {kvs : List (NestedKey × W)} (h : (kvs.map (·.1)).Nodup) (k : NestedKey) (w : W) : ((nPut kvs k w).map (·.1)).Nodup := by
  rw [nPut_keys]
  split
  · exact h
  · rename_i hn
    rw [List.nodup_append]
    refine ⟨h, by simp, fun x hx y hy => ?_⟩
    rw [List.mem_singleton.mp hy]
    rintro rfl
    exact hn (nHas_mem.mpr hx)
theorem g_nput (F : Fm g i k Y) {o j : Expr} {to ti : TEd} {pos : Pos} (ho : QE Y o to) (hi : QE Y j ti)
    (ha : ∀ v, assign (.Subscript o j pos) Y.X.env v = (do
      let ov ← holding [v] (eval o Y.X.env)
      let iv ← holding [v, ov] (eval j Y.X.env)
      standAt pos
      holding [v, ov, iv] (setItem ov iv v)
      release [v, ov, iv] []) := by intro _; rfl) : QG Y (.Subscript o j pos) (gNPut g.P g.w to ti) := by
  refine ⟨fun s H σ M v w Q S r h => semG_of (pg_sub pe_sem pe_sem set_sem ha) (ho.then_ S h fun vo H1 wo M1 e d r1 q => hi.then_ (S.go e d) q fun vi H2 wi M2 e2 d2 r2 q2 => ?_)⟩
  have rv := r.ext (e.trans e2)
  split at q2
  · rename_i p x
    obtain ⟨kvs, kk, hm, hx, ht, hd, hz, q3⟩ := q2
    rw [← F.hP, ← F.hw] at hm q3
    intro pins sh s' ov iv u I ro ri ru
    obtain rfl := (show vo = _ from r1)
    cases ro
    obtain ⟨xs, h1, _, _, hn, hp, hdict⟩ := dn_at I d2 hm
    obtain ⟨b, rfl⟩ := tup_ref r2 ht
    cases ri
    subst hx
    have hk : (nestedKind Y.X.prog Y.X.w).is sh.heap kk b := ⟨Fz.nested I kk _ _ r2 rfl, hd⟩
    have hu : (nestedKind Y.X.prog Y.X.w).room Y.X.A.in1 := by have := F.room.un; show Y.X.A.units + 1 + 8 < cLine; omega
    have hl : xs.length ≤ sizeLine := by rw [Paired.length hp]; omega
    refine wpAny_setItem_heap (hsz := hl) hu hk hdict fun h' hdict' sb => ?_
    obtain ⟨J, X1, D1⟩ := dn_put (t' := sh.toks + (nestedKind Y.X.prog Y.X.w).draws kk) I d2 hm hdict' sb (kvs' := nPut kvs kk w) (Nat.le_trans (nPut_len kvs kk w) hz) (nPut_nodup hn kk w) (RN.put hp r2 hd ru rv)
    exact ⟨_, J, σ, _, (e.trans e2).trans X1, S.go ((e.trans e2).trans X1) D1, q3⟩
  · exact q2.elim
/-- {k: v} -/
def tNDis (P : Program) (w : World) (tk tv : TEd) : TEd := fun σ M Q => ∀ p, M p = none → tk σ (mset M p (.dN P w [])) fun x M1 => tv σ M1 fun v M2 => match x with
  | .d x => ∃ k, x = NestedKey.data k ∧ isTup x = true ∧ k.depth ≤ 8 ∧ M2 p = some (.dN P w []) ∧ Q (.ref p) (mset M2 p (.dN P w [(k, v)]))
  | _ => False
/-- {} -/
def tNNew (P : Program) (w : World) : TEd := fun _ M Q => ∀ p, M p = none → Q (.ref p) (mset M p (.dN P w []))
theorem not_sys {pins : List (Addr × Obj)} {s : L2.St} {H : Hp} {sh : Shared} (I : Inv Y.X pins s H sh) (hsy : SysOk Y.X.base) : (sh.heap.objs.size == sysModules) = false := by
  obtain ⟨o, es, n, e, _⟩ := hsy
  have z := Heap.lt_size (I.bk _ _ e)
  exact beq_eq_false_iff_ne.mpr (Nat.ne_of_gt z)
theorem q_nnew (F : Fm g i k Y) {pos : Pos} : QE Y (.Dict [] [] pos) (tNNew g.P g.w) := by
  refine ⟨fun s H σ M Q S h pins sh I => ?_⟩
  have n0 : H sh.heap.objs.size = none := I.hok.fresh (Nat.le_refl _)
  have m0 := S.d.free n0
  have X1 : Ext H M (upd H sh.heap.objs.size (DctN g.P g.w [] sh.heap.objs.size)) (mset M sh.heap.objs.size (.dN g.P g.w [])) := ext_mut (.inr n0)
  refine wpAny_Dict_empty ⟨.ref sh.heap.objs.size, _, I.laid (a := sh.heap.objs.size) (o := DctN g.P g.w [] sh.heap.objs.size) (t' := sh.toks) (fun _ _ q => Heap.get?_push_of_some _ q) (Nat.le_refl _) ?_, rfl, ⟨.ref sh.heap.objs.size, _, X1, dok_mut (u := .dN g.P g.w []) S.d (.inr n0) fun e => ⟨[], upd_same, Nat.zero_le _, not_sys I F.sy, List.nodup_nil, .nil⟩, rfl, h _ m0⟩⟩
  have hx := Heap.DictOfH.new (knd := nestedKind g.P g.w) sh.heap
  obtain ⟨o, es, ep, e1, e2, e3, e4, _⟩ := hx
  exact ⟨⟨o, es, ep, e1, e2, e3, e4⟩, ⟨o, e1⟩, fun _ _ ⟨o', es', ep', z1, z2⟩ k => ⟨o', es', ep', k o' z1, z2⟩⟩
theorem q_ndis (F : Fm g i k Y) {ek ev : Expr} {tk tv : TEd} {pos : Pos} (hk : QE Y ek tk) (hv : QE Y ev tv) : QE Y (.Dict [some ek] [ev] pos) (tNDis g.P g.w tk tv) := by
  refine ⟨fun s H σ M Q S h pins sh I => ?_⟩
  rw [← F.hP, ← F.hw] at h
  obtain ⟨p, hp⟩ : ∃ p, p = sh.heap.objs.size := ⟨_, rfl⟩
  have n0 : H p = none := by rw [hp]; exact I.hok.fresh (Nat.le_refl _)
  have m0 := S.d.free n0
  have X1 : Ext H M (upd H p (DctN Y.X.prog Y.X.w [] p)) (mset M p (.dN Y.X.prog Y.X.w [])) := ext_mut (.inr n0)
  have hnew : (sh.heap.push { cls := .type "dict", data := .dict #[] }).DictOfH (nestedKind Y.X.prog Y.X.w) p [] := by rw [hp]; exact Heap.DictOfH.new sh.heap
  have D1 : Dok Y.X.K (upd H p (DctN Y.X.prog Y.X.w [] p)) (mset M p (.dN Y.X.prog Y.X.w [])) := dok_mut (u := .dN Y.X.prog Y.X.w []) S.d (.inr n0) fun e => ⟨[], upd_same, Nat.zero_le _, by rw [hp]; exact not_sys I F.sy, List.nodup_nil, .nil⟩
  have I1 : Inv Y.X pins s (upd H p (DctN Y.X.prog Y.X.w [] p)) { sh with heap := sh.heap.push { cls := .type "dict", data := .dict #[] } } := by
    rw [hp]
    refine I.laid (o := DctN Y.X.prog Y.X.w [] sh.heap.objs.size) (t' := sh.toks) (fun _ _ q => Heap.get?_push_of_some _ q) (Nat.le_refl _) ?_
    obtain ⟨o, es, ep, e1, e2, e3, e4, _⟩ := Heap.DictOfH.new (knd := nestedKind Y.X.prog Y.X.w) sh.heap
    exact ⟨⟨o, es, ep, e1, e2, e3, e4⟩, ⟨o, e1⟩, fun _ _ ⟨o', es', ep', z1, z2⟩ k => ⟨o', es', ep', k o' z1, z2⟩⟩
  have S1 : Std Y s (upd H p (DctN Y.X.prog Y.X.w [] p)) σ (mset M p (.dN Y.X.prog Y.X.w [])) := S.go X1 D1
  have hu : (nestedKind Y.X.prog Y.X.w).room Y.X.A := by have := F.room.un; show Y.X.A.units + 8 < cLine; omega
  have ne : pairTrees [some ek] [ev] Y.X.env pos ≠ [] := fun z => by cases z
  rw [arm_eval_Dict, zip_pairTrees [some ek] [ev] Y.X.env pos rfl rfl, dictDisplay_pairs _ ne (by show 1 < 17; decide)]
  refine wpAny_bind (wpAny_standAt (wpAny_bind (wpAny_subDictH (knd := nestedKind Y.X.prog Y.X.w) hu (by show 1 ≤ 15; decide) ?_)))
  refine pairTrees_cons_walk (thn (hk.run _ _ _ _ _ S1 (h p m0) pins _ I1) fun v1 s1 ⟨x1, H1, I2, r1, w1, M1, e1, d1, rw1, q⟩ => ?_)
  refine thn (hv.run _ _ _ _ _ (S1.go e1 d1) q pins s1 I2) fun v2 s2 ⟨x2, H2, I3, r2, w2, M2, e2, d2, rw2, q2⟩ => pairTrees_nil_walk ?_
  have rx := rw1.ext e2
  split at q2
  · rename_i x
    obtain ⟨kk, hx, ht, hd, hm, q3⟩ := q2
    obtain ⟨b, rfl⟩ := tup_ref rx ht
    cases r1
    subst hx
    obtain ⟨xs, h1, _, _, _, hpp, hdict⟩ := dn_at I3 d2 hm
    have x0 : xs = [] := by cases hpp; rfl
    subst x0
    have hkk : (nestedKind Y.X.prog Y.X.w).is s2.heap kk b := ⟨Fz.nested I3 kk _ _ rx rfl, hd⟩
    refine ⟨[(kk, b, v2)], ⟨rfl, rfl, hkk, trivial⟩, by rw [← hp]; exact hdict, fun h' tk hx' sb => ?_⟩
    rw [← hp] at hx' sb ⊢
    have hst : storedAllH ([] : List (NestedKey × Addr × Value)) [(kk, b, v2)] = [(kk, b, v2)] := rfl
    rw [hst] at hx'
    obtain ⟨J, X2, D2⟩ := dn_put (t' := tk) (kvs' := [(kk, w2)]) I3 d2 hm hx' sb (by show 1 ≤ sizeLine; rw [sizeLine_eq]; decide) (by simp) (.cons ⟨rfl, rx, hd, x2, r2, rw2⟩ .nil)
    exact wpAny_pure ⟨.ref p, _, J, rfl, .ref p, _, (X1.trans (e1.trans e2)).trans X2, D2, rfl, q3⟩
  · exact q2.elim
end
end Dl
set_option Elab.async false
set_option linter.all false
set_option maxRecDepth 100000
/-! more of lists: zip, enumerate, pop, list(x) that changes, op= in a place, min, max, [::-1], order of tuples -/
namespace Dl
open PySem PySem.Spec PyProof.Rows L2
section
variable {g : Gc} {i : Si} {k : Nat} {Y : Dx}
/-! ### what is walked: zip, enumerate -/
def seqQ (w : W) (M : MH) (R : List PyData → (MH → Prop) → Prop) : Prop := match w with
  | .d (.tuple ds) => R ds noKc
  | .d (.list ds) => R ds noKc
  | .scr ds => R ds noKc
  | .ref p => ∃ ws, M p = some (.lst ws) ∧ dataQ (fun ds _ => R ds fun M => M p = some (.lst (ds.map W.d))) ws M
  | _ => False
theorem seqQ_get {K : PySem.W.Frag} {H : Hp} {M : MH} {v : V} {w : W} {R : List PyData → (MH → Prop) → Prop} (d : Dok K H M) (r : Wv K H M v w) (h : seqQ w M R) :
    ∃ t a xs ds kc, v = .ref a ∧ Zm.SqX t K H a xs ∧ R ds kc ∧ ∀ H2 M2, Ext H M H2 M2 → Dok K H2 M2 → kc M2 → ∃ xs, Zm.SqX t K H2 a xs ∧ FzA K H2 M2 xs ds := by
  unfold seqQ at h
  split at h
  · obtain ⟨p, xs, rfl, h1, h2⟩ := r.tup
    exact ⟨true, p, xs, _, _, rfl, h1.sq, h, fun H2 M2 e _ _ => ⟨xs, (h1.ext e).sq, FzA.ext e _ xs h2⟩⟩
  · obtain ⟨p, xs, rfl, h1, h2⟩ := r.lst
    exact ⟨false, p, xs, _, _, rfl, h1.sq, h, fun H2 M2 e _ _ => ⟨xs, (h1.ext e).sq, FzA.ext e _ xs h2⟩⟩
  · obtain ⟨p, xs, rfl, h1, h2⟩ := r
    exact ⟨false, p, xs, _, _, rfl, h1.sq, h, fun H2 M2 e _ _ => ⟨xs, (h1.ext e).sq, FzA.ext e _ xs h2⟩⟩
  · obtain ⟨ws, hm, h⟩ := h
    obtain ⟨ds, rfl, q⟩ := dataQ_get h
    obtain rfl := (show v = _ from r)
    obtain ⟨xs, h1, h2⟩ := d _ _ hm
    refine ⟨false, _, xs, ds, _, rfl, SqL.of h1, q, fun H2 M2 e d2 c => ?_⟩
    obtain ⟨ys, k1, k2⟩ := d2 _ _ c
    exact ⟨ys, SqL.of k1, FzA.of_wv k2⟩
  · exact h.elim
def zipW (xs ys : List PyData) : List W := (xs.zip ys).map fun p => W.pr [p.1, p.2]
def enW (xs : List PyData) : List W := xs.zipIdx.map fun p => W.pr [.int (p.2 : Nat), p.1]
theorem pair_new {K : PySem.W.Frag} {H : Hp} {M : MH} {T : Addr} {vs : List V} {ds : List PyData} (d : Dok K H M) (n : H T = none) (h : FzA K H M vs ds) : Ext H M (upd H T (.tup vs)) M ∧ Dok K (upd H T (.tup vs)) M ∧ Wv K (upd H T (.tup vs)) M (.ref T) (.pr ds) := by
  have m := d.free n
  have e := ext_new (o := .tup vs) n m
  exact ⟨e, dok_new d n, T, vs, rfl, ⟨.inl upd_same, m⟩, FzA.ext e ds vs h⟩
theorem jl_zip {K : PySem.W.Frag} {H1 : Hp} {M1 : MH} {t1 t2 : Bool} {a b : Addr} {d1 d2 : List PyData} {k1 k2 : MH → Prop} (h1 : ∀ H2 M2, Ext H1 M1 H2 M2 → Dok K H2 M2 → k1 M2 → ∃ xs, Zm.SqX t1 K H2 a xs ∧ FzA K H2 M2 xs d1)
    (h2 : ∀ H2 M2, Ext H1 M1 H2 M2 → Dok K H2 M2 → k2 M2 → ∃ xs, Zm.SqX t2 K H2 b xs ∧ FzA K H2 M2 xs d2) : JL K (Zm.Itm K t1 t2 a b) H1 M1 (zipW d1 d2) (fun M => k1 M ∧ k2 M) := by
  intro H2 M2 e d c
  obtain ⟨xs, sx, fx⟩ := h1 H2 M2 e d c.1
  obtain ⟨ys, sy, fy⟩ := h2 H2 M2 e d c.2
  refine ⟨fun j w ej => ?_, ⟨xs, ys, sx, sy, ?_⟩⟩
  · unfold zipW at ej
    rw [List.getElem?_map] at ej
    cases hz : (d1.zip d2)[j]? with
    | none => rw [hz] at ej; cases ej
    | some p =>
      rw [hz] at ej
      cases ej
      rw [List.getElem?_zip_eq_some] at hz
      obtain ⟨v, ev, rv⟩ := fx.get hz.1
      obtain ⟨u, eu, ru⟩ := fy.get hz.2
      refine ⟨⟨xs, ys, v, u, sx, sy, ev, eu⟩, fun x H3 ⟨T, x1, y1, hx, hT, hH, f1, f2⟩ => ?_⟩
      subst hx hH
      have g1 := f1 xs sx
      have g2 := f2 ys sy
      rw [ev] at g1
      rw [eu] at g2
      cases g1
      cases g2
      exact pair_new d hT (.cons rv (.cons ru .nil))
  · have l1 := fx.length
    have l2 := fy.length
    simp only [zipW, List.length_map, List.length_zip]
    omega
def iZipD (t : TAd) : TId := fun σ M Q => t σ M fun ws M1 => match ws with
  | [w1, w2] => seqQ w1 M1 fun d1 k1 => seqQ w2 M1 fun d2 k2 => Q (zipW d1 d2) (fun M => k1 M ∧ k2 M) M1
  | _ => False
theorem i_zip (F : Fm g i k Y) (j : Nat) {a b : Expr} {t : TAd} {p pos tpos : Pos} {elts : List Expr} {kk : Nat} (hm : g.mg "zip" = none) (ha : QA Y [a, b] t) (hj : i.gls[j]? = some "zip" := by rfl) (hs : starEach [a, b] Y.X.env = (false, eval a Y.X.env) :: starEach [b] Y.X.env := by rfl)
    (hpl : (backTo pos (starEach [b] Y.X.env)).any (·.1) = false := by rfl) : QI Y (.Tuple elts kk tpos) (.Call (.Name "zip" p) [a, b] [] pos) (iZipD t) := by
  obtain ⟨h1, _, _⟩ := F.glo j _ hj
  refine ⟨fun s H σ M Q S h => semIt_of (Zm.pi_zipM h1 (by rw [F.hmg]; exact hm) pa_sem hs hpl) (ha.then_ S h fun v H1 w M1 e d r q => ?_)⟩
  split at q
  · obtain ⟨v, u, rfl, r1, r2⟩ := r.two
    obtain ⟨t1, a1, xs, d1, k1, rfl, s1, q, f1⟩ := seqQ_get d r1 q
    obtain ⟨t2, a2, ys, d2, k2, rfl, s2, q, f2⟩ := seqQ_get d r2 q
    exact ⟨t1, t2, a1, a2, xs, ys, rfl, s1, s2, _, _, M1, e, d, jl_zip f1 f2, q⟩
  · exact q.elim
theorem jl_enum {K : PySem.W.Frag} {H1 : Hp} {M1 : MH} {t : Bool} {a : Addr} {d1 : List PyData} {k1 : MH → Prop} (h1 : ∀ H2 M2, Ext H1 M1 H2 M2 → Dok K H2 M2 → k1 M2 → ∃ xs, Zm.SqX t K H2 a xs ∧ FzA K H2 M2 xs d1) : JL K (Zm.Itn K t a) H1 M1 (enW d1) k1 := by
  intro H2 M2 e d c
  obtain ⟨xs, sx, fx⟩ := h1 H2 M2 e d c
  refine ⟨fun j w ej => ?_, ⟨xs, sx, ?_⟩⟩
  · unfold enW at ej
    rw [List.getElem?_map, List.getElem?_zipIdx] at ej
    cases hz : d1[j]? with
    | none => rw [hz] at ej; cases ej
    | some p =>
      rw [hz] at ej
      cases ej
      obtain ⟨v, ev, rv⟩ := fx.get hz
      refine ⟨⟨xs, v, sx, ev⟩, fun x H3 ⟨T, x1, hx, hT, hH, f1⟩ => ?_⟩
      subst hx hH
      have g1 := f1 xs sx
      rw [ev] at g1
      cases g1
      have := pair_new (vs := [.int (j : Nat), v]) (ds := [.int ((0 + j : Nat) : Int), p]) d hT (.cons (by rw [Nat.zero_add]; exact .int _) (.cons rv .nil))
      exact this
  · have l1 := fx.length
    simp [enW]
    omega
def iEnumD (t : TAd) : TId := fun σ M Q => t σ M fun ws M1 => match ws with
  | [w1] => seqQ w1 M1 fun d1 k1 => Q (enW d1) k1 M1
  | _ => False
theorem i_enum (F : Fm g i k Y) (j : Nat) {a : Expr} {t : TAd} {p pos tpos : Pos} {elts : List Expr} {kk : Nat} (hm : g.mg "enumerate" = none) (ha : QA Y [a] t) (hj : i.gls[j]? = some "enumerate" := by rfl) (hs : starEach [a] Y.X.env = [(false, eval a Y.X.env)] := by rfl) :
    QI Y (.Tuple elts kk tpos) (.Call (.Name "enumerate" p) [a] [] pos) (iEnumD t) := by
  obtain ⟨h1, _, _⟩ := F.glo j _ hj
  refine ⟨fun s H σ M Q S h => semIt_of (Zm.pi_enumM h1 (by rw [F.hmg]; exact hm) pa_sem hs) (ha.then_ S h fun v H1 w M1 e d r q => ?_)⟩
  split at q
  · obtain ⟨v, rfl, r1⟩ := r.one
    obtain ⟨t1, a1, xs, d1, k1, rfl, s1, q, f1⟩ := seqQ_get d r1 q
    exact ⟨t1, a1, xs, rfl, s1, _, _, M1, e, d, jl_enum f1, q⟩
  · exact q.elim

/-! ### methods of lists, list(x) -/
def rPopD : RMd := fun w us M Q => match w, us with
  | .ref p, [.d (.int n)] => ∃ ws, M p = some (.lst ws) ∧ -(2 ^ 63) ≤ n ∧ n < 2 ^ 63 ∧ ∃ m u, seqIndex? n ws.length = some m ∧ ws[m]? = some u ∧ Q u (mset M p (.lst (ws.eraseIdx m)))
  | _, _ => False
theorem paired_at {α β : Type} {R : α → β → Prop} : ∀ {xs : List α} {ys : List β} {n : Nat} {y : β}, Paired R xs ys → ys[n]? = some y → ∃ x, xs[n]? = some x ∧ R x y
  | _, _, _, _, .nil, e => by simp at e
  | _, _, 0, _, .cons r _, e => by simp at e; subst e; exact ⟨_, rfl, r⟩
  | _, _, n + 1, y, .cons _ t, e => by
    obtain ⟨x, e1, e2⟩ := paired_at (n := n) (y := y) t (by simpa using e)
    exact ⟨x, by simpa using e1, e2⟩
theorem erase_paired {α β : Type} {R : α → β → Prop} : ∀ {xs : List α} {ys : List β} (n : Nat), Paired R xs ys → Paired R (xs.eraseIdx n) (ys.eraseIdx n)
  | _, _, _, .nil => .nil
  | _, _, 0, .cons _ t => t
  | _, _, n + 1, .cons r t => .cons r (erase_paired n t)
theorem m_popAt : MetD Y "list" "list.pop" "pop" tyMut rPopD := by
  refine ⟨rPopAt, F.plainAttrs_list, F.slot_list_pop, F.type_list_pop, mt_popAt, fun S r h => tyMut_is S r h, ?_⟩
  intro s H σ M x w vs ws Q R S r rs q k
  unfold rPopD at q
  split at q
  · obtain ⟨xs, hm, n1, n2, m, u, hx, hu, q⟩ := q
    obtain rfl := (show x = _ from r)
    obtain ⟨ys, h1, h2⟩ := S.d _ _ hm
    obtain ⟨v, rfl, rv⟩ := rs.one
    obtain ⟨y, e1, e2⟩ := paired_at h2 hu
    exact ⟨_, ys, _, m, y, rfl, by rw [rv.int], h1, n1, n2, by rw [Paired.length h2]; exact hx, e1, k _ _ (up_set S hm (erase_paired m h2) e2 q)⟩
  · exact q.elim
theorem seq0 {n : Nat} (h : 0 < n) : seqIndex? 0 n = some 0 := by
  unfold seqIndex?
  simp [h]
/-- list(x), a list that changes -/
def rLstM : RCd := fun ws M Q => match ws with
  | [.d (.tuple xs)] => ∀ p, M p = none → Q (.ref p) (mset M p (.lst (xs.map W.d)))
  | [.d (.list xs)] => ∀ p, M p = none → Q (.ref p) (mset M p (.lst (xs.map W.d)))
  | [.ref p0] => ∃ ws, M p0 = some (.lst ws) ∧ ∀ p, M p = none → Q (.ref p) (mset M p (.lst ws))
  | _ => False
theorem c_lstM : OpC Y (.type "list") rLstM := by
  intro s H σ M xs ws Q S rx q
  unfold rLstM at q
  split at q
  · obtain ⟨v, rfl, r⟩ := rx.one
    obtain ⟨p, ys, rfl, h1, h2⟩ := r.tup
    exact semC_of call_list_of ⟨p, ys, rfl, .inr h1.sq, fun l n => up_mut S n h2.wv (q l (S.d.free n))⟩
  · obtain ⟨v, rfl, r⟩ := rx.one
    obtain ⟨p, ys, rfl, h1, h2⟩ := r.lst
    exact semC_of call_list_of ⟨p, ys, rfl, .inl h1.sq, fun l n => up_mut S n h2.wv (q l (S.d.free n))⟩
  · obtain ⟨v, rfl, r⟩ := rx.one
    obtain ⟨ws', hm, q⟩ := q
    obtain rfl := (show v = _ from r)
    obtain ⟨ys, h1, h2⟩ := S.d _ _ hm
    exact semC_of call_list_of ⟨_, ys, rfl, .inl (SqL.of h1), fun l n => up_mut S n h2 (q l (S.d.free n))⟩
  · exact q.elim

/-! ### o[j] op= e, ints in a list that changes -/
def tAugD (f : Int → Int → Int) (to ti te : TEd) : TSd := fun D σ M => to σ M fun o M1 => ti σ M1 fun j M2 => match o, j with
  | .ref p, .d (.int n) => ∃ ws, M2 p = some (.lst ws) ∧ ∃ m : Nat, n = m ∧ ∃ x, ws[m]? = some (.d (.int x)) ∧ te σ M2 fun y M3 => match y with
    | .d (.int y) => ∃ ws', M3 p = some (.lst ws') ∧ m < ws'.length ∧ D.nx σ (mset M3 p (.lst (ws'.set m (.d (.int (f x y))))))
    | _ => False
  | _, _ => False
def rGetI (K : PySem.W.Frag) : V → V → Hp → VK → Prop := fun o i H Q => ∃ p xs, ∃ n : Nat, ∃ v, o = .ref p ∧ i = .int n ∧ SqL K H p xs ∧ xs[n]? = some v ∧ Q v H
theorem get_int : PGet Y.X (rGetI Y.X.K) := by
  intro pins s σ H o i ov iv Q I ro ri h
  obtain ⟨p, xs, n, v, rfl, rfl, hq, he, q⟩ := h
  cases ro
  obtain ⟨t, rfl⟩ := ri
  obtain ⟨its, r, pl, hz⟩ := I.list hq
  obtain ⟨w, ew, rw'⟩ := r.get he
  have lt := (List.getElem?_eq_some_iff.mp ew).1
  have hl := r.length
  have hn := line63
  exact getItem_listL pl.isList (by omega) (by omega) (by simpa using ew) ⟨v, H, I, rw', q⟩
theorem ixN_nat {n m : Nat} (h : m < n) : ixN n (m : Int) = some m := by
  unfold ixN
  simp [h]
theorem s_aug {f : Int → Int → Int} {op : Operator} (hp : PIp Y.X op (ipI f)) {o j e : Expr} {to ti te : TEd} {tpos pos : Pos} (ho : QE Y o to) (hi : QE Y j ti) (he : QE Y e te)
    (ha : ∀ ov iv new, augStore j ov iv new = (do holding [new, ov, iv] (setItem ov iv new); release [new, ov, iv] []; pure .next) := by intros; rfl) : QS Y (.AugAssign (.Subscript o j tpos) op e pos) (tAugD f to ti te) := by
  refine ⟨fun s H σ M D S h => semS_of (ps_augS pe_sem pe_sem get_int pe_sem hp set_list ha) (ho.then_ S h fun vo H1 wo M1 e1 d1 r1 q => hi.then_ (S.go e1 d1) q fun vi H2 wi M2 e2 d2 r2 q2 => ?_)⟩
  split at q2
  · rename_i p n
    obtain ⟨ws, hm, m, rfl, x, hx, q3⟩ := q2
    obtain rfl := (show vo = _ from r1)
    obtain ⟨xs, h1, h2⟩ := d2 _ _ hm
    obtain ⟨v, ev, rv⟩ := paired_at h2 hx
    have ev' : v = .int x := rv.int
    subst ev'
    refine ⟨p, xs, m, _, rfl, r2.int, SqL.of h1, ev, he.then_ ((S.go e1 d1).go e2 d2) q3 fun vy H3 wy M3 e3 d3 r3 q4 => ?_⟩
    split at q4
    · rename_i y
      obtain ⟨ws', hm', hl, q5⟩ := q4
      obtain ⟨ys, k1, k2⟩ := d3 _ _ hm'
      refine ⟨x, y, rfl, r3.int, p, ys, _, m, rfl, r2.int, k1, by rw [Paired.length k2]; exact ixN_nat hl, ?_⟩
      have nn : M3 p ≠ none := by rw [hm']; exact fun z => by cases z
      have X : Ext H3 M3 (upd H3 p (.lst (ys.set m (.int (f x y))))) (mset M3 p (.lst (ws'.set m (.d (.int (f x y)))))) := ext_mut (.inl nn)
      have dd : Dok Y.X.K (upd H3 p (.lst (ys.set m (.int (f x y))))) (mset M3 p (.lst (ws'.set m (.d (.int (f x y)))))) := dok_mut (u := .lst (ws'.set m (.d (.int (f x y))))) d3 (.inl nn) fun e => ⟨_, upd_same, WvA.ext e (set_paired (wInt (f x y)) m k2)⟩
      exact ⟨σ, _, ((e1.trans e2).trans e3).trans X, S.go (((e1.trans e2).trans e3).trans X) dd, q5⟩
    · exact q4.elim
  · exact q2.elim
def tAugN (f : Int → Int → Int) (j : Nat) (te : TEd) : TSd := fun D σ M => slotQ σ j fun x => match x with
  | .d (.int x) => te σ M fun y M1 => match y with | .d (.int y) => D.nx (σ.set j (some (.d (.int (f x y))))) M1 | _ => False
  | _ => False
/-- n op= e, ints -/
theorem s_augN (F : Fm g i k Y) (j : Nat) {f : Int → Int → Int} {op : Operator} (hp : PIp Y.X op (ipI f)) {x : Str} {e : Expr} {te : TEd} {p pos : Pos} (he : QE Y e te) (hN : i.N[j]? = some x := by rfl) (hl : i.loc.contains j = true := by rfl) : QS Y (.AugAssign (.Name x p) op e pos) (tAugN f j te) := by
  have lk := F.loc j x hl hN
  refine ⟨fun s H σ M D S h => semS_of (ps_aug (i := j) (by rw [F.N]; exact F.nd) (by rw [F.N]; exact hN) (.inl lk) pe_sem hp (.inr lk)) ?_⟩
  obtain ⟨w, ew, q⟩ := slotQ_get h
  obtain ⟨v, ev, r⟩ := S.s.get ew
  split at q
  · rename_i x
    have hv : v = .int x := r.int
    subst hv
    refine ⟨_, ev, he.then_ S q fun vy H1 wy M1 e1 d1 r1 q1 => ?_⟩
    split at q1
    · rename_i y
      exact ⟨x, y, rfl, r1.int, _, M1, e1, (S.go e1 d1).set (wInt (f x y)) j, q1⟩
    · exact q1.elim
  · exact q.elim

/-! ### min, max of a list; [::-1]; order; some times -/
def rMinL : RCd := fun ws M Q => match ws with
  | [.d (.list xs)] => match intsD xs with | some ns => ns ≠ [] ∧ ∀ m, m ∈ ns → (∀ y, y ∈ ns → m ≤ y) → Q (.d (.int m)) M | none => False
  | _ => False
def rMaxL : RCd := fun ws M Q => match ws with
  | [.d (.list xs)] => match intsD xs with | some ns => ns ≠ [] ∧ ∀ m, m ∈ ns → (∀ y, y ∈ ns → y ≤ m) → Q (.d (.int m)) M | none => False
  | _ => False
theorem c_minL (F : Fm g i k Y) (hc : i.hot = false := by rfl) : OpC Y (.builtin "min") rMinL := by
  intro s H σ M xs ws Q S rx q
  unfold rMinL at q
  split at q
  · split at q
    · rename_i bs e
      obtain rfl := intsD_eq e
      obtain ⟨v, rfl, r⟩ := rx.one
      obtain ⟨p, ys, rfl, h1, h2⟩ := r.lst
      obtain rfl := h2.intsV
      exact semC_of (cr_min (F.calm hc)) ⟨p, bs, rfl, h1.sq, List.length_pos_iff.mpr q.1, fun m hm hy => S.here (wInt _) (q.2 m hm hy)⟩
    · exact q.elim
  · exact q.elim
theorem c_maxL (F : Fm g i k Y) (hc : i.hot = false := by rfl) : OpC Y (.builtin "max") rMaxL := by
  intro s H σ M xs ws Q S rx q
  unfold rMaxL at q
  split at q
  · split at q
    · rename_i bs e
      obtain rfl := intsD_eq e
      obtain ⟨v, rfl, r⟩ := rx.one
      obtain ⟨p, ys, rfl, h1, h2⟩ := r.lst
      obtain rfl := h2.intsV
      exact semC_of (cr_max (F.calm hc)) ⟨p, bs, rfl, h1.sq, List.length_pos_iff.mpr q.1, fun m hm hy => S.here (wInt _) (q.2 m hm hy)⟩
    · exact q.elim
  · exact q.elim
theorem fza_rev {K : PySem.W.Frag} {H : Hp} {M : MH} {xs : List V} {ds : List PyData} (h : FzA K H M xs ds) : FzA K H M xs.reverse ds.reverse := h.reverse
/-- xs[::-1] of a list -/
def tRevLD (te : TEd) : TEd := fun σ M Q => te σ M fun w M1 => match w with | .d (.list ds) => Q (.d (.list ds.reverse)) M1 | _ => False
theorem q_revL {e : Expr} {te : TEd} {kk : Nat} {p1 p2 p3 pos : Pos} (he : QE Y e te) : QE Y (.Subscript e (.Slice none none (some (.UnaryOp .USub (.Constant (.int 1) kk p1) p2)) p3) pos) (tRevLD te) := by
  refine ⟨fun s H σ M Q S h => semE_of (pe_revL pe_sem) (he.then_ S h fun v H1 w M1 e d r q => ?_)⟩
  split at q
  · obtain ⟨p, xs, rfl, h1, h2⟩ := r.lst
    exact ⟨p, xs, rfl, h1.sq, fun l n => (up_lst (S.go e d) n (fza_rev h2) q).trans e⟩
  · exact q.elim
/-- x < y, tuples of ints -/
def rLtTD : R2d := fun a b M Q => match a, b with
  | .d (.tuple xs), .d (.tuple ys) => match intsD xs, intsD ys with | some ns, some ms => Q (.d (.bool (HT.lexLt ns ms))) M | _, _ => False
  | _, _ => False
theorem o_ltT (F : Fm g i k Y) : Op2 Y (compareOp .Lt) rLtTD := by
  intro s H σ M x y a b Q S rx ry q
  unfold rLtTD at q
  split at q
  · split at q
    · rename_i ns ms e1 e2
      obtain rfl := intsD_eq e1
      obtain rfl := intsD_eq e2
      obtain ⟨p, xs, rfl, h1, h2⟩ := rx.tup
      obtain ⟨p', ys, rfl, h3, h4⟩ := ry.tup
      obtain rfl := h2.intsV
      obtain rfl := h4.intsV
      have hu : Y.X.A.units < cLine := by have := F.room.un; omega
      exact semO_of (op_ltT hu) ⟨p, p', ns, ms, rfl, rfl, h1.sq, h3.sq, S.here (wBool _) q⟩
    · exact q.elim
  · exact q.elim
/-- xs != y, xs a list that changes -/
def rCmpM (neg : Bool) : R2d := fun a b M Q => match a, b with
  | .ref p, .d y => ∃ ws, M p = some (.lst ws) ∧ dataQ (fun xs M => neOk (.list xs) y = true ∧ Q (.d (.bool (if neg then !PyData.eqv (.list xs) y else PyData.eqv (.list xs) y))) M) ws M
  | _, _ => False
theorem o_neM (F : Fm g i k Y) : Op2 Y (compareOp .NotEq) (rCmpM true) := by
  intro s H σ M x y a b Q S rx ry q
  unfold rCmpM at q
  split at q
  · rename_i p dy
    intro pins sh s' v u I r1 r2
    obtain ⟨ws, hm, q⟩ := q
    obtain ⟨xs, rfl, ok, q⟩ := dataQ_get q
    obtain rfl := (show x = _ from rx)
    cases r1
    obtain ⟨vs, e1, e2⟩ := S.d _ _ hm
    obtain ⟨as, h1⟩ := seq_reads F I e1 (FzA.of_wv e2)
    obtain ⟨bs, h2, _⟩ := Fz.reads I F.sy _ y u ry r2
    have hu := F.room.un
    have ok2 : ((PyData.list xs).canLay0 && dy.canLay0 && decide (min (PyData.list xs).depth dy.depth ≤ 64)) = true := by simpa [neOk, bothS] using ok
    simp only [Bool.and_eq_true, decide_eq_true_eq] at ok2
    exact SeqAt.compareNe_reads h1 h2 ok2.1.1 ok2.1.2 (by omega) ⟨.bl _, H, I, rfl, S.here (wBool _) q⟩
  · exact q.elim
theorem o_eqM (F : Fm g i k Y) : Op2 Y (compareOp .Eq) (rCmpM false) := by
  intro s H σ M x y a b Q S rx ry q
  unfold rCmpM at q
  split at q
  · rename_i p dy
    intro pins sh s' v u I r1 r2
    obtain ⟨ws, hm, q⟩ := q
    obtain ⟨xs, rfl, ok, q⟩ := dataQ_get q
    obtain rfl := (show x = _ from rx)
    cases r1
    obtain ⟨vs, e1, e2⟩ := S.d _ _ hm
    obtain ⟨as, h1⟩ := seq_reads F I e1 (FzA.of_wv e2)
    obtain ⟨bs, h2, _⟩ := Fz.reads I F.sy _ y u ry r2
    have hu := F.room.un
    have ok2 : ((PyData.list xs).canLay0 && dy.canLay0 && decide (min (PyData.list xs).depth dy.depth ≤ 64)) = true := by simpa [neOk, bothS] using ok
    simp only [Bool.and_eq_true, decide_eq_true_eq] at ok2
    exact SeqAt.compareEq_reads h1 h2 ok2.1.1 ok2.1.2 (by omega) ⟨.bl _, H, I, rfl, S.here (wBool _) q⟩
  · exact q.elim
end
end Dl
set_option Elab.async false
set_option linter.all false
set_option maxRecDepth 100000
/-! tuples: some times, of what may change; lists put together -/
namespace Dl
open PySem PySem.Spec PyProof.Rows L2
open AutoSeq1 (wpAny_loadPart')
theorem tuple_once (l : Addr) (items : Array Value) (n : Nat) (dd : Option Addr) (sl : Array (Option Value)) (u : Tok) :
    Meets (Builtin.«tuple.__mul__» ⟨[.ref l, .int 1 u], []⟩) (fun _ R s => s.heap.get? l = some { cls := .type "tuple", dict := dd, data := .seq items n, slots := sl } ∧ R (.ok (.ret (Value.ref l))) s) :=
  .of_wp fun prog w A R s h => by
    obtain ⟨hp, g, d, tk, os⟩ := s
    obtain ⟨hl, h⟩ := h
    have f1 := AutoSeq1.idx_int
    have c1 : (items.isEmpty || (1 : Int) == 1) = true := by simp
    wp_walk using wpAny_loadPart' hl
    exact ⟨_, rfl, h⟩
theorem int_rmul_tup (a : Int) (t : Tok) (l : Addr) (items : Array Value) (n : Nat) (dd : Option Addr) (sl : Array (Option Value)) :
    Meets (Builtin.«int.__rmul__» ⟨[.int a t, .ref l], []⟩) (fun _ R s => s.heap.get? l = some { cls := .type "tuple", dict := dd, data := .seq items n, slots := sl } ∧ R (.ok (.ret Value.notImplemented)) s) :=
  .of_wp fun prog w A R s h => by obtain ⟨hp, g, d, tk, os⟩ := s; obtain ⟨hl, h⟩ := h; wp_walk using wpAny_loadPart' hl; exact ⟨_, rfl, h⟩
/-- a tuple once -/
def rRepT1 (K : PySem.W.Frag) : R2 := fun x y H Q => ∃ l xs, x = .ref l ∧ y = .int 1 ∧ SqT K H l xs ∧ Q (.ref l) H
theorem op_repT1 {X : Cx} : OpR X (binaryOp .Mult) (rRepT1 X.K) := by
  intro pins s σ H x y v u Q I rx ry h
  obtain ⟨l, xs, rfl, rfl, hT, q⟩ := h
  cases rx
  obtain ⟨t, rfl⟩ := ry
  obtain ⟨its, r, ⟨⟨cls, dd, data, sl⟩, ho, hc, n, hd⟩, hs⟩ := I.tuple hT
  simp only at hc hd
  subst hc hd
  refine wpAny_binaryOp_repeat_ref (T := "tuple") (U := "int") (by decide) ⟨_, ho, rfl⟩ (fun s' => typeIs_int s' 1 t) noFill_tuple_mul F.fills_int_mul F.slot_int_rmul repeat_tuple F.slot_int_index.lookup
    (call_meets F.slot_int_rmul (typeIs_int s 1 t) F.entry_int_rmul (F.args_int_rmul_2 _ _) (int_rmul_tup 1 t l its.toArray n dd sl)
      ⟨ho, rfl, ⟨_, ho, rfl⟩, call_meets F.slot_tuple_mul ⟨_, ho, rfl⟩ F.entry_tuple_mul (F.args_tuple_mul_2 _ _) (tuple_once l its.toArray n dd sl t) ⟨ho, ?_⟩⟩)
  exact ⟨.ref l, _, I, rfl, q⟩
section
variable {g : Gc} {i : Si} {k : Nat} {Y : Dx}
/-- a tuple n times, n from 1 on -/
def rRepD1 : R2d := fun a b M Q => match a, b with
  | .d (.tuple ds), .d (.int n) => ds ≠ [] ∧ 1 ≤ n ∧ n ≤ 1000 ∧ ds.length ≤ 1000 ∧ Q (.d (.tuple (List.replicate n.toNat ds).flatten)) M
  | _, _ => False
theorem o_rep1 : Op2 Y (binaryOp .Mult) rRepD1 := by
  intro s H σ M x y a b Q S rx ry q
  unfold rRepD1 at q
  split at q
  · obtain ⟨q1, q2, q3, q4, q5⟩ := q
    rename_i ds n
    by_cases h1 : n = 1
    · subst h1
      obtain ⟨p, xs, rfl, h1, h2⟩ := rx.tup
      refine semO_of op_repT1 ⟨p, xs, rfl, ry.int, h1.sq, S.here rx ?_⟩
      have e : (List.replicate (1 : Int).toNat ds).flatten = ds := by simp
      rw [e] at q5
      exact q5
    · exact o_rep s H σ M x y _ _ Q S rx ry ⟨q1, by omega, q3, q4, q5⟩
  · exact q.elim
/-! ### tuples of what may change -/
def tTupM (t : TAd) : TEd := fun σ M Q => t σ M fun ws M1 => small ws.length ∧ ∀ p, M1 p = none → Q (.ref p) (mset M1 p (.tup ws))
theorem q_tupM {es : List Expr} {t : TAd} {x1} {pos : Pos} (h : QA Y es t) : QE Y (.Tuple es x1 pos) (tTupM t) := by
  refine ⟨fun s H σ M Q S hq => semE_of (pe_tup pa_sem) (h.then_ S hq fun vs H1 ws M1 e d r q => ?_)⟩
  obtain ⟨hz, q⟩ := q
  refine ⟨by rw [Paired.length r]; exact hz, fun p n => ?_⟩
  have X1 : Ext H1 M1 (upd H1 p (.tup vs)) (mset M1 p (.tup ws)) := ext_mut (.inr n)
  exact ⟨.ref p, _, e.trans X1, dok_mut (u := .tup ws) d (.inr n) fun e' => ⟨vs, upd_same, WvA.ext e' r⟩, rfl, q p (d.free n)⟩
/-- (a, b, ..) = one of these -/
def gTupM (n : Nat) (t : TGsd) : TGd := fun w σ M Q => match w with | .ref p => ∃ ws, M p = some (.tup ws) ∧ ws.length = n ∧ t ws σ M Q | _ => False
theorem g_tupM (F : Fm g i k Y) {es : List Expr} {kk : Nat} {t : TGsd} {n : Nat} {pos : Pos} (h : QGs Y es t) (hn : (assignEach es Y.X.env).length = n := by rfl) (hst : (assignEach es Y.X.env).findIdx? (·.1) = none := by rfl) (hc : i.hot = false := by rfl) : QG Y (.Tuple es kk pos) (gTupM n t) := by
  refine ⟨fun s H σ M v w Q S r hq => ?_⟩
  unfold gTupM at hq
  split at hq
  · obtain ⟨ws, hm, hl, hq⟩ := hq
    obtain rfl := (show v = _ from r)
    obtain ⟨xs, h1, h2⟩ := S.d _ _ hm
    exact semG_of (pg_tup (F.calm hc) pgs_sem hn hst) ⟨_, xs, rfl, .inl (.inl h1), by rw [Paired.length h2]; exact hl, h.run s H σ M xs _ Q S h2 hq⟩
  · exact hq.elim
theorem sw_cell {elt : Expr} {gs : List Comprehension} {scope : Scope} {pos py : Pos} {y : Str} {l : Nat} {env : Env} (hy : env.scope.names.lookup y = some .cell) : swapsWith (.ListComp elt gs scope pos) (some (.Name y py)) l env = pure false := by
  have ky : env.kindOf y = some .cell := hy
  unfold swapsWith
  simp only [ky]
  have e : ((some NameKind.cell : Option NameKind) == some .local) = false := by decide
  rw [e, Bool.and_false, Bool.false_and, Bool.false_and]
/-- name = [..], the name a cell -/
theorem s_setlcC (F : Fm g i k Y) (j : Nat) {x : Str} {px : Pos} {elt : Expr} {gs : List Comprehension} {scope : Scope} {p2 pos : Pos} {t : TEd} (he : QE Y (.ListComp elt gs scope p2) t) (hN : i.N[j]? = some x := by rfl) (hc : i.cel.contains j = true := by rfl) :
    QS Y (.Assign [.Name x px] (.ListComp elt gs scope p2) pos) (tAsn t (gNam j)) := by
  exact s_set he (g_cell F j hN hc) (sw_cell (l := pos.line) (F.cel j x hc hN).1)
/-! ### lists put together, some of which may change -/
def lstQ (w : W) (M : MH) (R : List PyData → Prop) : Prop := match w with
  | .d (.list ds) => R ds
  | .ref p => ∃ ws, M p = some (.lst ws) ∧ dataQ (fun ds _ => R ds) ws M
  | _ => False
theorem lstQ_get {K : PySem.W.Frag} {H : Hp} {M : MH} {v : V} {w : W} {R : List PyData → Prop} (d : Dok K H M) (r : Wv K H M v w) (h : lstQ w M R) : ∃ a xs ds, v = .ref a ∧ H a = some (.lst xs) ∧ FzA K H M xs ds ∧ R ds := by
  unfold lstQ at h
  split at h
  · obtain ⟨p, xs, rfl, h1, h2⟩ := r.lst
    exact ⟨p, xs, _, rfl, h1.1, h2, h⟩
  · obtain ⟨ws, hm, h⟩ := h
    obtain ⟨ds, rfl, h'⟩ := dataQ_get h
    obtain ⟨xs, h1, h2⟩ := d _ _ hm
    exact ⟨_, xs, ds, r, h1, FzA.of_wv h2, h'⟩
  · exact h.elim
def rAddL : R2d := fun a b M Q => lstQ a M fun xs => lstQ b M fun ys => small (xs.length + ys.length) ∧ Q (.d (.list (xs ++ ys))) M
theorem o_addL : Op2 Y (binaryOp .Add) rAddL := by
  intro s H σ M x y a b Q S rx ry q
  obtain ⟨p, vs, xs, rfl, h1, h2, q⟩ := lstQ_get S.d rx q
  obtain ⟨p', us, ys, rfl, h3, h4, hz, q⟩ := lstQ_get S.d ry q
  exact semO_of op_cat ⟨p, p', vs, us, rfl, rfl, h1, h3, by rw [h2.length, h4.length]; exact hz, fun r n => up_lst S n (h2.append h4) q⟩
end
end Dl
set_option Elab.async false
set_option linter.all false
set_option maxRecDepth 100000
/-! sorted(list or tuple); more methods of lists -/
namespace Dl
open PySem PySem.Spec PyProof.Rows L2
open PySem.W (EachIs AllAlike Sortable dataLe SortsAt sortVals sortVals_length sortVals_data sortingHeap_old)
section
variable {prog : Program} {w : World} {A : Around} {E : Value → Shared → Prop} {s : Shared}
theorem grown_size (h : Heap) (items : Array Value) : ((h.push { cls := .type "list", data := .seq ([] : List Value).toArray }).update h.objs.size (Obj.mapSeq (· ++ items))).objs.size = h.objs.size + 1 := by
  rw [Heap.size_update, size_push']
/-- the items of a list or a tuple: what was there stays, one object more -/
theorem collect_more {l : Addr} {T : String} {o : Obj} {items : Array Value} {n : Nat} {Q : List Value → Shared → Prop} (hT : T = "list" ∨ T = "tuple") (ho : s.heap.get? l = some o) (hc : o.cls = .type T) (hd : o.data = .seq items n) (hz : items.size ≤ sizeLine)
    (hQ : ∀ h', (∀ b u, s.heap.get? b = some u → h'.get? b = some u) → h'.objs.size = s.heap.objs.size + 1 → Q items.toList { s with heap := h' }) : wpAny (model prog w) A (collect (.ref l)) Q E s := by
  obtain ⟨p, hp⟩ : ∃ p, p = s.heap.objs.size := ⟨_, rfl⟩
  obtain ⟨g, hg⟩ : ∃ g, g = (s.heap.push { cls := .type "list", data := .seq ([] : List Value).toArray }).update p (Obj.mapSeq (· ++ items)) := ⟨_, rfl⟩
  have hS : (s.heap.push { cls := .type "list", data := .seq ([] : List Value).toArray }).get? p = some { cls := .type "list", data := .seq #[] 0 } := by rw [hp]; exact Heap.get?_push_size _ rfl
  have keeps : ∀ b u, s.heap.get? b = some u → g.get? b = some u := fun b u e => by
    rw [hg]
    exact (Heap.get?_update_other _ _ (by rw [hp]; exact Nat.ne_of_gt (Heap.lt_size e))).trans (Heap.get?_push_of_some _ e)
  have size : g.objs.size = s.heap.objs.size + 1 := by rw [hg, hp]; exact grown_size _ _
  have gp : g.get? p = some (Obj.mapSeq (· ++ items) { cls := .type "list", data := .seq #[] 0 }) := by rw [hg]; exact Heap.get?_update_self _ hS rfl
  have last : wpAny (model prog w) A (load p >>= fun o => match o.data with | .seq xs _ => pure xs.toList | _ => unsupported "internal:collect") Q E { s with heap := g } := by
    refine wpAny_bind (wpAny_load gp (wpAny_pure ?_))
    have e : ((#[] : Array Value) ++ items).toList = items.toList := by simp
    show Q ((#[] : Array Value) ++ items).toList _
    rw [e]
    exact hQ g keeps size
  unfold collect
  refine wpAny_bind (wpAny_runValue (codeAny_builtin F.entry_proto_collect ?_))
  rw [Around.under_plainId F.plain_proto_collect _]
  show wpAny _ A.in1 (newList [] >>= fun l' => again (.builtin "list.__iadd__" ⟨[l', .ref l], []⟩)) _ _ s
  refine wpAny_bind (wpAny_newList (wpAny_pure ⟨plainId_quiet F.plain_list_iadd _, codeAny_builtin F.entry_list_iadd ?_⟩) (Nat.zero_le _))
  rw [Around.under_plainId F.plain_list_iadd _]
  rw [← hp]
  have go := wpAny_extend_seq (hsz := hz) (prog := prog) (w := w) (A := A) (R := fun r s' => r = .ok (.ret (.ref p)) ∧ s' = { s with heap := g }) (s := { s with heap := s.heap.push { cls := .type "list", data := .seq ([] : List Value).toArray } }) p l (.ref p) 0 hT hS (Heap.get?_push_of_some _ ho) hc hd ⟨rfl, by rw [hg]⟩
  refine wpAny_mono go (fun f s' h => ?_) fun e s' h => absurd h.1 (by simp)
  cases f with
  | done f =>
    obtain ⟨e, rfl⟩ := h
    cases e
    exact last
  | again c => exact ⟨h.1, codeAny_mono h.2 fun r s'' hr => by obtain ⟨rfl, rfl⟩ := hr; exact last⟩
theorem sorted_any {l : Addr} {T : String} {o : Obj} {vs : List Value} {n : Nat} {ds : List PyData} {R : Value → PyData → Prop} {Q : Value → Shared → Prop} (hT : T = "list" ∨ T = "tuple") (ho : s.heap.get? l = some o) (hc : o.cls = .type T) (hd : o.data = .seq vs.toArray n)
    (e : EachIs R vs ds) (er : EachIs (fun v d => ∃ as, Reads s.heap v d as) vs ds) (hal : AllAlike ds) (hk : Sortable ds) (hL : ds.length ≤ sizeLine) (hu : ∀ d, d ∈ ds → A.units + 2 + d.depth < cLine)
    (h : ∀ a h' out m, s.heap.objs.size ≤ a → (∀ b u, s.heap.get? b = some u → h'.get? b = some u) → h'.get? a = some (seqObj "list" out.toArray m) → EachIs R out (ds.mergeSort (dataLe false id)) → Q (.ref a) { s with heap := h' }) :
    wpAny (model prog w) A (call (.builtin "sorted") [.ref l]) Q E s := by
  have el : vs.length = ds.length := e.length
  have dm : ds.map id = ds := List.map_id ds
  refine call_function_entry_kw kind_sorted plain_sorted entry_sorted (args_sorted1 _) ?_
  unfold Builtin.«sorted»
  refine wpAny_bind (m := checkCount "sorted" 1 1 _) (wpAny_pure ?_)
  refine wpAny_bind (collect_more hT ho hc hd (by rw [List.size_toArray, el]; exact hL) fun h1 k1 z1 => ?_)
  have ell : vs.toArray.toList = vs := rfl
  rw [ell]
  refine wpAny_bind (wpAny_newList ?_ (by rw [el]; exact hL))
  have hs1 : s.heap.objs.size ≤ h1.objs.size := by omega
  show wpAny _ _ _ _ _ { s with heap := h1.push (seqObj "list" vs.toArray 0) }
  obtain ⟨h2, eh2⟩ : ∃ h2, h2 = h1.push (seqObj "list" vs.toArray 0) := ⟨_, rfl⟩
  rw [← eh2]
  have at2 : h2.get? h1.objs.size = some (seqObj "list" vs.toArray 0) := by rw [eh2]; exact Heap.get?_push_size _ rfl
  have k2 : ∀ b u, s.heap.get? b = some u → h2.get? b = some u := fun b u z => by rw [eh2]; exact Heap.get?_push_of_some _ (k1 b u z)
  have nb : ∀ b u, s.heap.get? b = some u → b ≠ h1.objs.size := fun b u z => Nat.ne_of_lt (Heap.lt_size (k1 b u z))
  have er' : EachIs (fun v d => ∃ as, Reads (PySem.W.sortingHeap h2 h1.objs.size vs) v (id d) as) vs ds := er.mono fun _ _ ⟨as, r⟩ => ⟨as, PyProof.Rows.Reads.keeps (fun b u z => sortingHeap_old (nb b u z) (k2 b u z)) r⟩
  show wpAny (model prog w) A.in1 (holding [Value.ref h1.objs.size] (call (.builtin "list.sort") [.ref h1.objs.size] []) >>= fun _ => ret (.ref h1.objs.size)) _ E { s with heap := h2 }
  refine wpAny_bind (wpAny_holding (wpAny_call_entry_kw slot_list_sort ⟨_, at2, rfl⟩ entry_list_sort ?body (args_list_sort _)))
  case body =>
    refine PySem.W.list_sort_vals (κ := PySem.W.dataKind (PySem.W.sortingHeap h2 h1.objs.size vs) (ds.map id)) (s := { s with heap := h2 }) at2 (SortsAt.data (s := { s with heap := PySem.W.sortingHeap h2 h1.objs.size vs }) (PySem.W.each_map (R := fun v d => ∃ as, Reads (PySem.W.sortingHeap h2 h1.objs.size vs) v d as) id er') (by rw [dm]; exact hal) (by rw [dm]; exact hk) (by rw [dm]; exact hu)) (by rw [el]; exact hL) ⟨_, rfl, wpAny_pure ⟨_, rfl, ?_⟩⟩
    have sv := sortVals_data false e er' (by rw [dm]; exact hal)
    obtain ⟨m, hm⟩ := PyProof.Rows.sortedHeap_at (vs := vs) (out := (sortVals (PySem.W.dataKind (PySem.W.sortingHeap h2 h1.objs.size vs) (ds.map id)) false vs vs).toArray) at2
    exact h h1.objs.size _ _ m hs1 (fun b u z => (PyProof.Rows.sortedHeap_old (nb b u z) (Heap.lt_size (k2 b u z))).trans (k2 b u z)) hm sv
end
section
variable {g : Gc} {i : Si} {k : Nat} {Y : Dx}
theorem each_rel {X : Cx} {H : Hp} {M : MH} : ∀ {xs : List V} {its : List Value} {ds : List PyData}, Vals xs its → FzA X.K H M xs ds → EachIs (fun v d => ∃ x, RelV x v ∧ Fz X.K H M x d) its ds
  | _, _, _, .nil, .nil => .nil
  | _, _, _, .cons r t, .cons f u => .cons ⟨_, r, f⟩ (each_rel t u)
theorem each_back {X : Cx} {H : Hp} {M : MH} : ∀ {its : List Value} {ds : List PyData}, EachIs (fun v d => ∃ x, RelV x v ∧ Fz X.K H M x d) its ds → ∃ xs, Vals xs its ∧ FzA X.K H M xs ds
  | _, _, .nil => ⟨[], .nil, .nil⟩
  | _, _, .cons ⟨x, r, f⟩ t => by
    obtain ⟨xs, h1, h2⟩ := each_back t
    exact ⟨x :: xs, .cons r h1, .cons f h2⟩
/-- a sequence as it stands here -/
theorem seqQ_here {K : PySem.W.Frag} {H : Hp} {M : MH} {v : V} {w : W} {R : List PyData → (MH → Prop) → Prop} (d : Dok K H M) (r : Wv K H M v w) (h : seqQ w M R) : ∃ t a xs ds kc, v = .ref a ∧ Zm.SqX t K H a xs ∧ R ds kc ∧ FzA K H M xs ds := by
  unfold seqQ at h
  split at h
  · obtain ⟨p, xs, rfl, h1, h2⟩ := r.tup
    exact ⟨true, p, xs, _, _, rfl, h1.sq, h, h2⟩
  · obtain ⟨p, xs, rfl, h1, h2⟩ := r.lst
    exact ⟨false, p, xs, _, _, rfl, h1.sq, h, h2⟩
  · obtain ⟨p, xs, rfl, h1, h2⟩ := r
    exact ⟨false, p, xs, _, _, rfl, h1.sq, h, h2⟩
  · obtain ⟨ws, hm, h⟩ := h
    obtain ⟨ds, rfl, q⟩ := dataQ_get h
    obtain rfl := (show v = _ from r)
    obtain ⟨xs, h1, h2⟩ := d _ _ hm
    exact ⟨false, _, xs, ds, _, rfl, .inl (.inl h1), q, FzA.of_wv h2⟩
  · exact h.elim
/-- the object of a sequence -/
theorem seq_obj {X : Cx} {pins : List (Addr × Obj)} {s : L2.St} {H : Hp} {sh : Shared} {t : Bool} {a : Addr} {xs : List V} (I : Inv X pins s H sh) (h : Zm.SqX t X.K H a xs) :
    ∃ (T : String) (o : Obj) (its : List Value) (n : Nat), (T = "list" ∨ T = "tuple") ∧ sh.heap.get? a = some o ∧ o.cls = .type T ∧ o.data = .seq its.toArray n ∧ Vals xs its := by
  cases t with
  | true =>
    obtain ⟨its, r, ⟨o, e, hc, n, hd⟩, _⟩ := I.tuple h
    exact ⟨"tuple", o, its, n, .inr rfl, e, hc, hd, r⟩
  | false =>
    obtain ⟨its, r, ⟨o, n, e, hc, _, hd⟩, _⟩ := I.list h
    exact ⟨"list", o, its, n, .inl rfl, e, hc, hd, r⟩
/-- sorted(a list or a tuple) -/
def rSort : RCd := fun ws M Q => match ws with
  | [w] => seqQ w M fun ds _ => AllAlike ds ∧ Sortable ds ∧ small ds.length ∧ (∀ d ∈ ds, d.depth ≤ 64) ∧ Q (.d (.list (ds.mergeSort (dataLe false id)))) M
  | _ => False
theorem c_sorted (F : Fm g i k Y) : OpC Y (.builtin "sorted") rSort := by
  intro s H σ M xs ws Q S rx q
  unfold rSort at q
  split at q
  · obtain ⟨v, rfl, r⟩ := rx.one
    obtain ⟨t, a, xs, ds, kc, rfl, h1, ⟨c1, c2, c3, c4, q⟩, f1⟩ := seqQ_here S.d r q
    intro pins sh s' us I ru
    obtain rfl := Vals.ref1 ru
    obtain ⟨T, o, its, n, hT, ho, hc, hd, rv⟩ := seq_obj I h1
    have hu := F.room.un
    have er : EachIs (fun v d => ∃ as, Reads sh.heap v d as) its ds := (each_rel rv f1).mono fun v d ⟨x, r1, r2⟩ => by
      obtain ⟨as, z, _⟩ := Fz.reads I F.sy d x v r2 r1
      exact ⟨as, z⟩
    have hd4 : ∀ d, d ∈ ds → Y.X.A.units + 2 + d.depth < cLine := fun d hd => by
      have := c4 d hd
      omega
    refine sorted_any (A := Y.X.A) (R := fun v d => ∃ x, RelV x v ∧ Fz Y.X.K H M x d) hT ho hc hd (each_rel rv f1) er c1 c2 c3 hd4 fun a' h' out m hp kp hm eo => ?_
    · obtain ⟨ys, vy, fy⟩ := each_back eo
      have n0 : H a' = none := I.hok.fresh hp
      have hl : ys.length ≤ sizeLine := by
        rw [fy.length, List.length_mergeSort]
        exact c3
      exact ⟨.ref a', _, I.laid (t' := sh.toks) (o := .lst ys) kp hp ⟨hl, out, m, vy, hm⟩, rfl, up_lst S n0 fy q⟩
  · exact q.elim
/-! ### methods of lists, kept or changing -/
def rSemM (Y : Dx) (id : String) : V → List V → Hp → VK → Prop := fun x xs H Q => ∀ pins sh s v us, Inv Y.X pins s H sh → RelV x v → Vals xs us → wpAny (model Y.X.prog Y.X.w) Y.X.A (call (.builtin id) (v :: us)) (EP Y.X pins s Q) Y.X.xe sh
theorem mt_sem {id : String} : MtR Y.X id (rSemM Y id) := fun pins sh s _ _ _ v us _ I r1 r2 h => h pins sh s v us I r1 r2
def tyL : W → MH → Prop := fun w M => lstQ w M fun _ => True
theorem tyL_is {s : L2.St} {H : Hp} {σ : SD} {M : MH} {x : V} {w : W} (S : Std Y s H σ M) (r : Wv Y.X.K H M x w) (h : tyL w M) : tyV Y.X.K "list" x H := by
  obtain ⟨a, xs, ds, rfl, h1, _, _⟩ := lstQ_get S.d r h
  exact .inl ⟨rfl, xs, SqL.of h1⟩
/-- xs.index(x) -/
def rIdxD : RMd := fun w us M Q => match us with
  | [.d x] => lstQ w M fun ds => inOk x ds = true ∧ ∃ (j : Nat) (z : PyData), ds[j]? = some z ∧ PyData.eqv z x = true ∧ (∀ (m : Nat) (z' : PyData), m < j → ds[m]? = some z' → PyData.eqv z' x = false) ∧ Q (.d (.int (j : Nat))) M
  | _ => False
/-- xs.count(x) -/
def rCntD : RMd := fun w us M Q => match us with
  | [.d x] => lstQ w M fun ds => inOk x ds = true ∧ Q (.d (.int ((ds.countP fun y => PyData.eqv y x : Nat) : Int))) M
  | _ => False
theorem lst_obj {s : L2.St} {H : Hp} {M : MH} {pins : List (Addr × Obj)} {sh : Shared} (I : Inv Y.X pins s H sh) (hsy : SysOk Y.X.base) {a : Addr} {xs : List V} {ds : List PyData} (h : H a = some (.lst xs)) (f : FzA Y.X.K H M xs ds) :
    ∃ (dd : Option Addr) (its : List Value) (n : Nat) (sl : Array (Option Value)) (as : List Addr), sh.heap.get? a = some ⟨.type "list", dd, .seq its.toArray n, sl⟩ ∧ ReadsAll sh.heap its ds as ∧ its.length = ds.length ∧ its.length ≤ sizeLine := by
  obtain ⟨its, rv, ⟨⟨cls, dd, data, sl⟩, n, ho, hc, _, hd⟩, hz⟩ := I.list (SqL.of h)
  simp only at hc hd
  subst hc hd
  obtain ⟨as, h4, _⟩ := FzA.reads I hsy ds xs its f rv
  exact ⟨dd, its, n, sl, as, ho, h4, SeqAt.ReadsAll.length ds its as h4, by rw [← rv.length]; exact hz⟩
theorem m_index (F : Fm g i k Y) : MetD Y "list" "list.index" "index" tyL rIdxD := by
  refine ⟨rSemM Y "list.index", PySem.F.plainAttrs_list, PySem.F.slot_list_index, PySem.F.type_list_index, mt_sem, fun S r h => tyL_is S r h, ?_⟩
  intro s H σ M x w vs ws Q R S r rs q kR
  unfold rIdxD at q
  split at q
  · obtain ⟨a, xs, ds, rfl, h1, f1, ok, j, z, hz, hzj, hno, q⟩ := lstQ_get S.d r q
    obtain ⟨y, rfl, ry⟩ := rs.one
    intro pins sh s' v us I rv ru
    cases rv
    obtain ⟨u, rfl, ru'⟩ := ru.one
    obtain ⟨dd, its, n, sl, as, ho, h4, hn, hl⟩ := lst_obj I F.sy h1 f1
    obtain ⟨bs, r1, _⟩ := Fz.reads I F.sy _ y u ry ru'
    unfold inOk at ok
    simp only [Bool.and_eq_true, decide_eq_true_eq] at ok
    obtain ⟨⟨hxs, hd⟩, hdp⟩ := ok
    have hu := F.room.un
    have hmap : its.map (SeqAt.readOf sh.heap) = ds := SeqAt.readsAll_map ds its as hxs h4
    obtain ⟨hjd, _⟩ := List.getElem?_eq_some_iff.mp hz
    have hj : j < its.toArray.size := by simp; omega
    have at_ : ∀ (m : Nat) (hm : m < its.toArray.size) (z' : PyData), ds[m]? = some z' → SeqAt.readOf sh.heap its.toArray[m] = z' := by
      intro m hm z' hz'
      have hml : m < its.length := by simpa using hm
      rw [← hmap, List.getElem?_map, List.getElem?_eq_getElem hml] at hz'
      have e1 : SeqAt.readOf sh.heap its[m] = z' := Option.some.inj hz'
      simpa using e1
    have hsl := sizeLine_eq
    refine call_meets PySem.F.slot_list_index ⟨_, ho, rfl⟩ PySem.F.entry_list_index (PySem.F.args_list_index_2 _ _)
      (SeqAt.list_indexAt a its.toArray n dd sl u (fun u => PyData.eqv (SeqAt.readOf sh.heap u) _) j hj (by omega) ?_ ?_) ⟨ho, SeqAt.items_eqAt (vs := its.toArray) h4 r1 hxs hd (by omega), ?_⟩
    · show PyData.eqv (SeqAt.readOf sh.heap its.toArray[j]) _ = true
      rw [at_ j hj z hz]
      exact hzj
    · intro m hm hmj
      have hmd : m < ds.length := by omega
      have hz' : ds[m]? = some ds[m] := List.getElem?_eq_getElem hmd
      show PyData.eqv (SeqAt.readOf sh.heap its.toArray[m]) _ = false
      rw [at_ m hm _ hz']
      exact hno m _ hmj hz'
    · exact ⟨.int (j : Nat), H, I.tok _, ⟨_, rfl⟩, kR _ _ (S.here (wInt _) q)⟩
  · exact q.elim
theorem m_count (F : Fm g i k Y) : MetD Y "list" "list.count" "count" tyL rCntD := by
  refine ⟨rSemM Y "list.count", PySem.F.plainAttrs_list, PySem.F.slot_list_count, PySem.F.type_list_count, mt_sem, fun S r h => tyL_is S r h, ?_⟩
  intro s H σ M x w vs ws Q R S r rs q kR
  unfold rCntD at q
  split at q
  · obtain ⟨a, xs, ds, rfl, h1, f1, ok, q⟩ := lstQ_get S.d r q
    obtain ⟨y, rfl, ry⟩ := rs.one
    intro pins sh s' v us I rv ru
    cases rv
    obtain ⟨u, rfl, ru'⟩ := ru.one
    obtain ⟨dd, its, n, sl, as, ho, h4, hn, hl⟩ := lst_obj I F.sy h1 f1
    obtain ⟨bs, r1, _⟩ := Fz.reads I F.sy _ y u ry ru'
    unfold inOk at ok
    simp only [Bool.and_eq_true, decide_eq_true_eq] at ok
    obtain ⟨⟨hxs, hd⟩, hdp⟩ := ok
    have hu := F.room.un
    have hmap : its.map (SeqAt.readOf sh.heap) = ds := SeqAt.readsAll_map ds its as hxs h4
    refine call_meets PySem.F.slot_list_count ⟨_, ho, rfl⟩ PySem.F.entry_list_count (PySem.F.args_list_count_2 _ _)
      (SeqAt.list_countAt a its.toArray n dd sl u (fun u => PyData.eqv (SeqAt.readOf sh.heap u) _)) ⟨ho, SeqAt.items_eqAt (vs := its.toArray) h4 r1 hxs hd (by omega), ?_⟩
    refine ⟨.int _, H, I.tok _, ⟨_, rfl⟩, kR _ _ (S.here (wInt _) ?_)⟩
    rw [← hmap, List.countP_map] at q
    exact q
  · exact q.elim
/-- xs.extend(ys), xs a list that changes -/
def rExtD : RMd := fun w us M Q => match w, us with
  | .ref p, [u] => ∃ ws, M p = some (.lst ws) ∧ lstQ u M fun ds => small (ws.length + ds.length) ∧ Q (.d .none) (mset M p (.lst (ws ++ ds.map W.d)))
  | _, _ => False
theorem m_extend : MetD Y "list" "list.extend" "extend" tyMut rExtD := by
  refine ⟨rExtend, PySem.F.plainAttrs_list, PySem.F.slot_list_extend, PySem.F.type_list_extend, mt_extend, fun S r h => tyMut_is S r h, ?_⟩
  intro s H σ M x w vs ws Q R S r rs q kR
  unfold rExtD at q
  split at q
  · obtain ⟨xs, hm, q⟩ := q
    obtain rfl := (show x = _ from r)
    obtain ⟨ys, h1, h2⟩ := S.d _ _ hm
    obtain ⟨v, rfl, rv⟩ := rs.one
    obtain ⟨a, us, ds, rfl, h3, h4, hz, q⟩ := lstQ_get S.d rv q
    exact ⟨_, a, ys, us, rfl, rfl, h1, h3, by rw [Paired.length h2, h4.length]; exact hz, kR _ _ (up_set S hm (h2.append h4.wv) wNone q)⟩
  · exact q.elim
/-! ### the greatest, the least of whole numbers in a list or a tuple -/
theorem alike_ints (ns : List Int) : PySem.W.AlikeAll (ns.map PyData.int) := by
  refine ⟨fun x hx y hy => ?_, fun x hx => ?_⟩
  · obtain ⟨a, _, rfl⟩ := List.mem_map.mp hx
    obtain ⟨b, _, rfl⟩ := List.mem_map.mp hy
    rfl
  · obtain ⟨a, _, rfl⟩ := List.mem_map.mp hx
    exact fun e => by cases e
theorem fold_max (ns : List Int) : ∀ n : Int, (ns.foldl max n) ∈ n :: ns ∧ ∀ y ∈ n :: ns, y ≤ ns.foldl max n := by
  induction ns with
  | nil => intro n; simp
  | cons a l ih =>
    intro n
    obtain ⟨h1, h2⟩ := ih (max n a)
    refine ⟨?_, fun y hy => ?_⟩
    · rw [List.foldl_cons]
      rcases List.mem_cons.mp h1 with e | e
      · rw [e]
        rcases Int.le_total n a with z | z
        · rw [Int.max_eq_right z]; simp
        · rw [Int.max_eq_left z]; simp
      · simp [e]
    · rw [List.foldl_cons]
      have m0 := h2 (max n a) List.mem_cons_self
      rcases List.mem_cons.mp hy with rfl | hy
      · omega
      · rcases List.mem_cons.mp hy with rfl | hy
        · omega
        · exact h2 y (List.mem_cons_of_mem _ hy)
def rMaxS : RCd := fun ws M Q => match ws with
  | [w] => seqQ w M fun ds _ => match intsD ds with | some ns => ns ≠ [] ∧ ∀ m, m ∈ ns → (∀ y, y ∈ ns → y ≤ m) → Q (.d (.int m)) M | none => False
  | _ => False
theorem c_maxS (F : Fm g i k Y) (hc : i.hot = false := by rfl) : OpC Y (.builtin "max") rMaxS := by
  intro s H σ M xs ws Q S rx q
  unfold rMaxS at q
  split at q
  · obtain ⟨v, rfl, r⟩ := rx.one
    obtain ⟨t, a, xs, ds, kc, rfl, h1, q, f1⟩ := seqQ_here S.d r q
    split at q
    · rename_i ns e
      obtain rfl := intsD_eq e
      obtain ⟨hne, q⟩ := q
      cases ns with
      | nil => exact absurd rfl hne
      | cons n ns =>
        intro pins sh s' us I ru
        obtain rfl := Vals.ref1 ru
        have hh : Y.X.A.handled = none := F.hd hc
        have hu := F.room.un
        have dp : PyData.depthAll ((n :: ns).map PyData.int) ≤ 1 := by
          have : ∀ l : List Int, PyData.depthAll (l.map PyData.int) = 0 := PySem.W.depth_ints
          rw [this]
          exact Nat.zero_le _
        obtain ⟨m1, m2⟩ := fold_max ns n
        have q2 := q _ m1 m2
        have fin : ∀ (v : Value) (h' : Heap) (tk : Nat) (bs : List Addr), Reads h' v (PySem.W.maxD (.int n) (ns.map PyData.int)) bs → (∀ b o, sh.heap.get? b = some o → h'.get? b = some o) → EP Y.X pins s' (up Y H M Q) v { sh with heap := h', toks := tk } := by
          intro v h' tk bs rd kp
          rw [PySem.W.maxD_ints] at rd
          cases rd
          exact ⟨.int _, H, I.kept (t' := tk) kp, ⟨_, rfl⟩, S.here (wInt _) q2⟩
        cases t with
        | true =>
          obtain ⟨its, rv, ⟨o, ho, hcl, m, hd⟩, _⟩ := I.tuple h1
          obtain ⟨as, rr, _⟩ := FzA.reads I F.sy _ _ its f1 rv
          exact PySem.W.max_tuple_data (vs := its.toArray) hh ⟨o, ho, hcl, m, hd⟩ rr (alike_ints (n :: ns)) (by rw [List.map_cons] at dp; omega) fun i v h' tk bs _ rd kp => fin v h' tk bs rd kp
        | false =>
          obtain ⟨its, rv, ⟨o, m, ho, hcl, _, hd⟩, _⟩ := I.list h1
          obtain ⟨as, rr, _⟩ := FzA.reads I F.sy _ _ its f1 rv
          exact PySem.W.max_list_data (vs := its.toArray) hh ⟨o, ho, hcl, m, hd⟩ rr (alike_ints (n :: ns)) (by rw [List.map_cons] at dp; omega) fun i v h' tk bs _ rd kp => fin v h' tk bs rd kp
    · exact q.elim
  · exact q.elim
/-- a, b = x, y where not both are plain local names -/
theorem s_setS (F : Fm g i k Y) {tg e : Expr} {t : TEd} {gt : TGd} {pos : Pos} (he : QE Y e t) (hg : QG Y tg gt) (hw' : ∀ env : Env, swappedStores [tg] e { env with scope := i.sc } = pure none := by intro; rfl) (hs : swapsWithSole [tg] e pos.line Y.X.env = pure false := by rfl)
    (h1 : (assignEach [tg] Y.X.env).map (·.2) = [assign tg Y.X.env] := by rfl) : QS Y (.Assign [tg] e pos) (tAsn t gt) := by
  have hw : swappedStores [tg] e Y.X.env = pure none := by
    have e' : Y.X.env = { Y.X.env with scope := i.sc } := by rw [← F.hsc]
    rw [e']
    exact hw' _
  exact s_set he hg hs hw h1
end
end Dl
set_option Elab.async false
set_option linter.all false
set_option maxRecDepth 100000
/-! lists: slices of those that change, some times; comprehensions that draw, giving a list that changes -/
namespace Dl
open PySem PySem.Spec PyProof.Rows L2
section
variable {g : Gc} {i : Si} {k : Nat} {Y : Dx}
def tSlL (te : TEd) (tl th : TOd) : TEd := fun σ M Q => te σ M fun w M1 => tl σ M1 fun lo M2 => th σ M2 fun hi M3 => lstQ w M3 fun ds => Q (.d (.list (cut ds lo hi))) M3
theorem q_slL {e : Expr} {lo hi : Option Expr} {te : TEd} {tl th : TOd} {p2 pos : Pos} (he : QE Y e te) (hl : QO Y lo tl) (hh : QO Y hi th) : QE Y (.Subscript e (.Slice lo hi none p2) pos) (tSlL te tl th) := by
  refine ⟨fun s H σ M Q S h => semE_of (pe_slice sl_list pe_sem po_sem po_sem) (he.then_ S h fun v H1 w M1 e d r q => fun pins sh I => ?_)⟩
  refine thn (hl.run _ _ _ _ _ (S.go e d) q pins sh I) fun u s1 ⟨o, H2, I2, p, M2, e2, d2, q2⟩ => ⟨o, H2, I2, p, fun pins sh I => ?_⟩
  refine thn (hh.run _ _ _ _ _ ((S.go e d).go e2 d2) q2 pins sh I) fun u s1 ⟨o3, H3, I3, p3, M3, e3, d3, q3⟩ => ⟨o3, H3, I3, p3, ?_⟩
  have S3 := ((S.go e d).go e2 d2).go e3 d3
  have r3 := (r.ext e2).ext e3
  have tr : ∀ {v : V} {H' : Hp}, up Y H3 M3 Q v H' → up Y H M Q v H' := fun z => z.trans ((e.trans e2).trans e3)
  obtain ⟨a, xs, ds, rfl, h1, h2, q4⟩ := lstQ_get d3 r3 q3
  exact ⟨a, xs, rfl, SqL.of h1, fun p n => tr (up_lst S3 n (h2.cut o o3) q4)⟩
/-- a list some times -/
def rRepL : R2d := fun a b M Q => match b with
  | .d (.int n) => lstQ a M fun ds => 0 ≤ n ∧ n ≤ 1000 ∧ ds.length ≤ 1000 ∧ Q (.d (.list (List.replicate n.toNat ds).flatten)) M
  | _ => False
theorem o_repL : Op2 Y (binaryOp .Mult) rRepL := by
  intro s H σ M x y a b Q S rx ry q
  unfold rRepL at q
  split at q
  · rename_i n
    obtain ⟨p, xs, ds, rfl, h1, h2, n0, n1, hl, q⟩ := lstQ_get S.d rx q
    have hx := h2.length
    have hz : xs.length * n.toNat ≤ sizeLine := by
      rw [sizeLine_eq]
      have : xs.length * n.toNat ≤ 1000 * 1000 := Nat.mul_le_mul (by omega) (by omega)
      omega
    exact semO_of op_rep ⟨p, n, xs, rfl, ry.int, h1, by omega, by omega, hz, fun r nr => up_lst S nr (h2.rep _) q⟩
  · exact q.elim
/-- two lists put together to one that changes -/
def rAddM : R2d := fun a b M Q => lstQ a M fun xs => lstQ b M fun ys => small (xs.length + ys.length) ∧ ∀ p, M p = none → Q (.ref p) (mset M p (.lst ((xs ++ ys).map W.d)))
theorem o_addM : Op2 Y (binaryOp .Add) rAddM := by
  intro s H σ M x y a b Q S rx ry q
  obtain ⟨p, vs, xs, rfl, h1, h2, q⟩ := lstQ_get S.d rx q
  obtain ⟨p', us, ys, rfl, h3, h4, hz, q⟩ := lstQ_get S.d ry q
  exact semO_of op_cat ⟨p, p', vs, us, rfl, rfl, h1, h3, by rw [h2.length, h4.length]; exact hz, fun r n => up_mut S n (h2.append h4).wv (q r (S.d.free n))⟩
end
/-- a list that changes of things drawn one by one from the pot at p, at most c draws each -/
theorem lcDrawM {ws : List W} {kc : MH → Prop} {M1 : MH} {σ : SD} {vs : List Nat} {T : Tg} {te : TEd} {R0 : Addr → MH → Prop} (p : Addr) (n c : Nat) (P : PyData → Prop) (hz : ws.length ≤ 16000000) (hkc : ∀ M, kc M) (hp : Pot p n M1)
    (he : ∀ (j : Nat) w, ws[j]? = some w → tgQ T w (wipeD σ vs) fun σ2 => ∀ M2, Pot p (n + c * j) M2 → Oth p M1 M2 → ∀ R : W → MH → Prop, (∀ x M3, P x → Pot p (n + c * j + c) M3 → Oth p M2 M3 → R (.d x) M3) → te σ2 M2 R)
    (q : ∀ (D : Addr) (ds : List PyData) M3, M1 D = none → ds.length = ws.length → (∀ d ∈ ds, P d) → M3 D = some (.lst (ds.map W.d)) → Pot p (n + c * ws.length) M3 → Oth p M1 M3 → R0 D M3) :
    ∀ D, M1 D = none → ∃ I : Nat → List W → MH → Prop, I 0 [] (mset M1 D (.lst [])) ∧ (∀ j acc M2, I j acc M2 → kc M2 ∧ M2 D = some (.lst acc)) ∧
      (∀ j w acc M2, ws[j]? = some w → I j acc M2 → tgQ T w (wipeD σ vs) fun σ2 => tAll σ2 M2 fun b M4 => if b = true then te σ2 M4 fun x M5 => M5 D = some (.lst acc) ∧ acc.length < sizeLine ∧ I (j + 1) (acc ++ [x]) (mset M5 D (.lst (acc ++ [x]))) else I (j + 1) acc M4) ∧
      (∀ acc M2, I ws.length acc M2 → R0 D M2) := by
  intro D nD
  have pD := hp.ne nD
  have sz := sizeLine_eq
  refine ⟨fun j acc M2 => j ≤ ws.length ∧ M2 D = some (.lst acc) ∧ Pot p (n + c * j) M2 ∧ Oth p M1 M2 ∧ ∃ ds : List PyData, acc = ds.map W.d ∧ ds.length = j ∧ ∀ d ∈ ds, P d, ?_, ?_, ?_, ?_⟩
  · refine ⟨Nat.zero_le _, mset_same, (hp.mono (by omega)).of (mset_ne pD), ?_, [], rfl, rfl, by simp⟩
    intro b o nb e
    rw [mset_ne (by rintro rfl; rw [nD] at e; cases e)]
    exact e
  · rintro j acc M2 ⟨_, h, _⟩
    exact ⟨hkc _, h⟩
  · rintro j w acc M2 hj ⟨hle, hD, hpj, ho, ds, rfl, hl, hP⟩
    have hj2 : j < ws.length := (List.getElem?_eq_some_iff.mp hj).1
    have fin : ∀ σ2, (∀ M2, Pot p (n + c * j) M2 → Oth p M1 M2 → ∀ R : W → MH → Prop, (∀ x M3, P x → Pot p (n + c * j + c) M3 → Oth p M2 M3 → R (.d x) M3) → te σ2 M2 R) → te σ2 M2 fun x M5 => M5 D = some (.lst (ds.map W.d)) ∧ (ds.map W.d).length < sizeLine ∧ (j + 1 ≤ ws.length ∧ (mset M5 D (.lst (ds.map W.d ++ [x]))) D = some (.lst (ds.map W.d ++ [x])) ∧ Pot p (n + c * (j + 1)) (mset M5 D (.lst (ds.map W.d ++ [x]))) ∧ Oth p M1 (mset M5 D (.lst (ds.map W.d ++ [x]))) ∧ ∃ es : List PyData, ds.map W.d ++ [x] = es.map W.d ∧ es.length = j + 1 ∧ ∀ d ∈ es, P d) := by
      intro σ2 h
      refine h M2 hpj ho _ fun x M3 px pp oo => ?_
      refine ⟨oo D _ (fun e => pD e.symm) hD, by rw [List.length_map, hl]; omega, by omega, mset_same, ?_, ?_, ds ++ [x], by simp, by simp [hl], ?_⟩
      · refine (pp.mono ?_).of (mset_ne pD)
        rw [Nat.mul_add, Nat.mul_one]
        omega
      · intro b o nb e
        rw [mset_ne (by rintro rfl; rw [nD] at e; cases e)]
        exact oo b o nb (ho b o nb e)
      · intro d hd
        rcases List.mem_append.mp hd with h1 | h1
        · exact hP d h1
        · rw [List.mem_singleton.mp h1]; exact px
    have z := he j w hj
    cases T with
    | one jt => exact fin _ z
    | many js =>
      unfold tgQ at z ⊢
      simp only at z ⊢
      split at z
      · exact ⟨z.1, fin _ z.2⟩
      · exact ⟨z.1, fin _ z.2⟩
      · exact z.elim
  · rintro acc M2 ⟨_, hD, hpj, ho, ds, rfl, hl, hP⟩
    exact q D ds M2 nD hl hP hD hpj ho
end Dl
set_option Elab.async false
set_option linter.all false
set_option maxRecDepth 100000
/-! isinstance of a caught exception; what is known of own classes -/
namespace L2
open PySem PySem.Spec PyProof.Rows
/-- isinstance(e, c), e a tracked exception -/
def rIsX (K : PySem.W.Frag) : List V → Hp → VK → Prop := fun xs H Q => ∃ (a D : Addr) (c : V) (cv : Value) (b : Bool), xs = [.ref a, c] ∧ H a = some (Dl.ExL (.ref D) none a) ∧ ExcC K D ∧ ClsV c cv ∧ PySem.W.kitOne K (.ref D) cv = some b ∧ Q (.bl b) H
theorem call_isX {X : Cx} : CallR X (.builtin "isinstance") (rIsX X.K) := by
  intro pins s σ H xs us Q I r h
  obtain ⟨a, D, c, cv, b, rfl, ha, C, k, e, q⟩ := h
  obtain ⟨u1, u2, rfl, r1, r2⟩ := vals2 r
  have e2 := k.eq r2
  subst e2
  cases (show u1 = Value.ref a from r1)
  obtain ⟨⟨oe, vs, hget, hz, hv⟩, _⟩ := I.hok a _ ha
  have J : PySem.W.InstAt s.heap a oe D none := by
    obtain ⟨oc, od, oda, osl⟩ := oe
    obtain ⟨h1, h2⟩ := hz
    dsimp only at h1 h2 hv
    subst h1 h2 hv
    exact ⟨hget, rfl, rfl, trivial⟩
  exact PySem.W.kia_one (PySem.W.handS_kitx_exc C.hg C.hk C.hs C.hd C.ha C.hn C.ht C.hm) I.kIn J e (fun z => nomatch z) fun tk => ⟨.bl b, H, I.tok tk, rfl, q⟩
end L2
namespace Dl
open PySem PySem.Spec PyProof.Rows L2
/-- cls is one of the class that the name y tells, own or built-in -/
def IsB (g : Gc) (cls : Value) (y : Str) (b : Bool) : Prop := ∃ D cv, cls = .ref D ∧ ExcC g.K D ∧ ((g.mg y = some cv ∧ ∃ C, cv = .ref C) ∨ (g.mg y = none ∧ ∃ n, bootBuiltins y = some (.type n) ∧ cv = .type n)) ∧ PySem.W.kitOne g.K (.ref D) cv = some b
/-- a name that tells a class -/
def CNm (g : Gc) (y : Str) : Prop := (∃ C, g.mg y = some (.ref C)) ∨ (g.mg y = none ∧ ∃ n, bootBuiltins y = some (.type n))
def isAll (g : Gc) (cls : Value) : List (Str × Bool) → Prop
  | [] => True
  | (y, b) :: r => IsB g cls y b ∧ isAll g cls r
def kAll (K : PySem.W.Frag) (t : Value) : List (Value × Bool) → Prop
  | [] => True
  | (c, b) :: r => PySem.W.kitOne K t c = some b ∧ kAll K t r
def nmAll (g : Gc) : List (Str × Value × Bool) → Prop
  | [] => True
  | (y, cv, _) :: r => ((g.mg y = some cv ∧ ∃ C, cv = .ref C) ∨ (g.mg y = none ∧ ∃ n, bootBuiltins y = some (.type n) ∧ cv = .type n)) ∧ nmAll g r
theorem ecl_of {g : Gc} {x : Str} {v : Value} (h : g.mg x = some v) : ecl g x = v := by
  unfold ecl
  rw [h]
  rfl
theorem enm_of {g : Gc} {x : Str} {v : Value} (h : g.mg x = some v) : ENm g x (ecl g x) := ⟨.inl (by rw [ecl_of h]; exact h)⟩
theorem exm_of {g : Gc} {x y : Str} {v u : Value} {b : Bool} (h : g.mg x = some v) (h2 : g.mg y = some u) (e : PySem.W.exmOne g.K v u = some b) : PySem.W.exmOne g.K (ecl g x) (ecl g y) = some b := by
  rw [ecl_of h, ecl_of h2]
  exact e
theorem isAll_of {g : Gc} {x : Str} {D : Addr} (h : g.mg x = some (.ref D)) (xc : ExcC g.K D) : ∀ {ps : List (Str × Value × Bool)}, nmAll g ps → kAll g.K (.ref D) (ps.map (·.2)) → isAll g (ecl g x) (ps.map fun p => (p.1, p.2.2))
  | [], _, _ => trivial
  | (y, cv, b) :: r, n, q => ⟨⟨D, cv, ecl_of h, xc, n.1, q.1⟩, isAll_of h xc n.2 q.2⟩
section
variable {g : Gc} {i : Si} {k : Nat} {Y : Dx}
def tIsx (g : Gc) (y : Str) (te : TEd) : TEd := fun σ M Q => te σ M fun w M1 => ∃ p cls b, w = .ref p ∧ M1 p = some (.exc cls none) ∧ IsB g cls y b ∧ Q (.d (.bool b)) M1
theorem q_isx (F : Fm g i k Y) (j jc : Nat) {y : Str} {e : Expr} {te : TEd} {p p2 pos : Pos} (hm : g.mg "isinstance" = none) (hy : CNm g y) (he : QE Y e te)
    (hj : i.gls[j]? = some "isinstance" := by rfl) (hjc : i.gls[jc]? = some y := by rfl)
    (hse : starEach [e, .Name y p2] Y.X.env = (false, eval e Y.X.env) :: starEach [.Name y p2] Y.X.env := by rfl) (hpl : (backTo pos (starEach [.Name y p2] Y.X.env)).any (·.1) = false := by rfl) : QE Y (.Call (.Name "isinstance" p) [e, .Name y p2] [] pos) (tIsx g y te) := by
  obtain ⟨h1, h2, h3⟩ := F.glo j _ hj
  obtain ⟨k1, k2, k3⟩ := F.glo jc _ hjc
  refine ⟨fun s H σ M Q S h => ?_⟩
  rcases hy with ⟨C, hy⟩ | ⟨hy0, n, hb⟩
  · refine semE_of (pe_callB call_isX h1 (by rw [F.hmg]; exact hm) boot_isinstance (pa_cons (pe_sem (e := e)) (pa_cons (pe_glob (v := .ref C) (u := .ref C) k1 (by rw [F.hmg]; exact hy) rfl k2) pa_nil) hse) h3 h2 hse hpl) (he.then_ S h fun v H1 w M1 e1 d r q => ?_)
    obtain ⟨a, cls, b, rfl, ha, ⟨D, cv, rfl, xc, hcv, hk⟩, q⟩ := q
    have ecv : cv = .ref C := by
      rcases hcv with ⟨z, _⟩ | ⟨z, _⟩
      · rw [hy] at z; exact (Option.some.inj z).symm
      · rw [hy] at z; cases z
    subst ecv
    obtain ⟨dd, hH, hx⟩ := d _ _ ha
    have ed : dd = none := by
      cases dd with
      | none => rfl
      | some _ => exact hx.elim
    subst ed
    exact ⟨a, D, .ref C, .ref C, b, by rw [show v = .ref a from r], hH, by rw [F.hK]; exact xc, .own C, by rw [F.hK]; exact hk, ((S.go e1 d).here (wBool _) q).trans e1⟩
  · refine semE_of (pe_callB call_isX h1 (by rw [F.hmg]; exact hm) boot_isinstance (pa_cons (pe_sem (e := e)) (pa_cons (pe_bltn (v := .ty n) (u := .type n) k1 (by rw [F.hmg]; exact hy0) hb rfl k3 k2) pa_nil) hse) h3 h2 hse hpl) (he.then_ S h fun v H1 w M1 e1 d r q => ?_)
    obtain ⟨a, cls, b, rfl, ha, ⟨D, cv, rfl, xc, hcv, hk⟩, q⟩ := q
    have ecv : cv = .type n := by
      rcases hcv with ⟨z, _⟩ | ⟨_, n', z, rfl⟩
      · rw [hy0] at z; cases z
      · rw [hb] at z
        cases z
        rfl
    subst ecv
    obtain ⟨dd, hH, hx⟩ := d _ _ ha
    have ed : dd = none := by
      cases dd with
      | none => rfl
      | some _ => exact hx.elim
    subst ed
    exact ⟨a, D, .ty n, .type n, b, by rw [show v = .ref a from r], hH, by rw [F.hK]; exact xc, .ty n, by rw [F.hK]; exact hk, ((S.go e1 d).here (wBool _) q).trans e1⟩
/-- what is never reached -/
theorem q_never {e : Expr} : QE Y e (fun _ _ _ => False) := ⟨fun _ _ _ _ _ _ h => h.elim⟩
end
end Dl
set_option Elab.async false
set_option linter.all false
set_option maxRecDepth 100000
/-! instances of own classes: fields, methods, making -/
namespace Dl
open PySem PySem.Spec PyProof.Rows L2
/-- the class object that the module's name x tells -/
def clsA (g : Gc) (x : Str) : Addr := match g.mg x with | some (.ref C) => C | _ => 0
theorem clsA_of {g : Gc} {x : Str} {C : Addr} (h : g.mg x = some (.ref C)) : clsA g x = C := by unfold clsA; rw [h]
theorem wvF_look {K : PySem.W.Frag} {H : Hp} {M : MH} {f : Str} {w : W} : ∀ {vs : List (Str × V)} {fs : List (Str × W)}, WvF K H M vs fs → fs.lookup f = some w → ∃ v, vs.lookup f = some v ∧ Wv K H M v w
  | _, _, .nil, e => nomatch e
  | (a, v) :: vs, (b, u) :: fs, .cons h t, e => by
    obtain ⟨h1, h2⟩ := h
    simp only at h1 h2
    subst h1
    simp only [List.lookup_cons] at e ⊢
    split at e
    · cases e
      exact ⟨v, rfl, h2⟩
    · exact wvF_look t e
theorem wvF_none {K : PySem.W.Frag} {H : Hp} {M : MH} {f : Str} : ∀ {vs : List (Str × V)} {fs : List (Str × W)}, WvF K H M vs fs → fs.lookup f = none → vs.lookup f = none
  | _, _, .nil, _ => rfl
  | (a, v) :: vs, (b, u) :: fs, .cons h t, e => by
    obtain ⟨h1, h2⟩ := h
    simp only at h1 h2
    subst h1
    simp only [List.lookup_cons] at e ⊢
    split at e
    · cases e
    · exact wvF_none t e
/-- a field put -/
def putD (f : Str) (w : W) : List (Str × W) → List (Str × W)
  | [] => [(f, w)]
  | (g, x) :: r => if g = f then (g, w) :: r else (g, x) :: putD f w r
theorem wvF_put {K : PySem.W.Frag} {H : Hp} {M : MH} {f : Str} {v : V} {w : W} (h : Wv K H M v w) : ∀ {vs : List (Str × V)} {fs : List (Str × W)}, WvF K H M vs fs → WvF K H M (putF f v vs) (putD f w fs)
  | _, _, .nil => .cons ⟨rfl, h⟩ .nil
  | (a, v') :: vs, (b, u) :: fs, .cons q t => by
    obtain ⟨h1, h2⟩ := q
    simp only at h1 h2
    subst h1
    unfold putF putD
    split
    · exact .cons ⟨rfl, h⟩ t
    · exact .cons ⟨rfl, h2⟩ (wvF_put h t)
section
variable {g : Gc} {i : Si} {k : Nat} {Y : Dx}
def tFldD (C : Addr) (te : TEd) (f : Str) : TEd := fun σ M Q => te σ M fun w M1 => ∃ p fs v, w = .ref p ∧ M1 p = some (.ins C fs) ∧ fs.lookup f = some v ∧ Q v M1
theorem q_fld (F : Fm g i k Y) {C : Addr} {e : Expr} {f : Str} {te : TEd} {pos : Pos} (c : Cls g.K C) (n : NoAttr g.K C f) (he : QE Y e te) (hb : attributeBase e f Y.X.env (eval e Y.X.env) = eval e Y.X.env := by rfl) : QE Y (.Attribute e f pos) (tFldD C te f) := by
  refine ⟨fun s H σ M Q S h => semE_of (pe_fld pe_sem hb) (he.then_ S h fun v H1 w M1 e1 d r q => ?_)⟩
  obtain ⟨p, fs, u, rfl, hp, hl, q⟩ := q
  obtain ⟨dx, vs, h1, h2⟩ := d _ _ hp
  obtain ⟨x, h3, h4⟩ := wvF_look h2 hl
  exact ⟨p, C, dx, vs, x, (show v = .ref p from r), h1, by rw [F.hK]; exact c, by rw [F.hK]; exact n, h3, ((S.go e1 d).here h4 q).trans e1⟩
def sFldD (C : Addr) (te tv : TEd) (f : Str) : TSd := fun D σ M => tv σ M fun y M1 => te σ M1 fun x M2 => ∃ p fs, x = .ref p ∧ M2 p = some (.ins C fs) ∧ fs.length < 1000 ∧ D.nx σ (mset M2 p (.ins C (putD f y fs)))
theorem put_len {f : Str} {v : V} : ∀ (fs : List (Str × V)), (putF f v fs).length ≤ fs.length + 1
  | [] => Nat.le_refl _
  | (g, x) :: r => by
    unfold putF
    split
    · simp
    · have := put_len (f := f) (v := v) r
      simp only [List.length_cons]
      omega
theorem s_fld (F : Fm g i k Y) {C : Addr} {o value : Expr} {f : Str} {te tv : TEd} {pos pos' : Pos} (c : Cls g.K C) (n : NoAttr g.K C f) (ho : QE Y o te) (hv : QE Y value tv)
    (hs : swapsWith value (some (.Attribute o f pos')) pos.line Y.X.env = pure false := by rfl) : QS Y (.Assign [.Attribute o f pos'] value pos) (sFldD C te tv f) := by
  refine ⟨fun s H σ M D S h => semS_of (ps_fld pe_sem pe_sem hs) ?_⟩
  refine hv.then_ S h fun v H1 y M1 e1 d1 r1 q => ?_
  have S1 := S.go e1 d1
  refine ho.then_ S1 q fun u H2 w M2 e2 d2 r2 q2 => ?_
  obtain ⟨p, fs, rfl, hp, hl, q3⟩ := q2
  obtain ⟨dx, vs, h1, h2⟩ := d2 _ _ hp
  have S2 := S1.go e2 d2
  have lv : vs.length = fs.length := Paired.length h2
  refine ⟨p, C, dx, vs, (show u = .ref p from r2), h1, by rw [F.hK]; exact c, by rw [F.hK]; exact n, by omega, ?_⟩
  have nn : M2 p ≠ none := by rw [hp]; exact fun z => by cases z
  have e3 : Ext H2 M2 (upd H2 p (.ins C dx (putF f v vs))) (mset M2 p (.ins C (putD f y fs))) := ext_mut (.inl nn)
  have r1' := r1.ext e2
  have d3 := dok_mut (u := .ins C (putD f y fs)) d2 (.inl nn) fun e => ⟨dx, _, upd_same, wvF_put (r1'.ext e) (WvF.ext e h2)⟩
  exact ⟨σ, _, (e1.trans e2).trans e3, S2.go e3 d3, q3⟩
/-- a def that stands in a class -/
structure DfM (g : Gc) (k : Nat) (C : Addr) (m : Str) (ps : List Str) (sp : SpD) (hot : Bool := false) : Prop where
  ex : ∃ f fd, FnG g k f fd ps sp hot ∧ Meth g.K C m f ∧ Binds g.K fd ps []
def tMthD (C : Addr) (m : Str) (sp : SpD) (wd : Value → XF → SD → MH → Prop) (te : TEd) (t : TAd) : TEd := fun σ M Q => te σ M fun w M1 => ∃ p fs, w = .ref p ∧ M1 p = some (.ins C fs) ∧ fs.lookup m = none ∧ t σ M1 fun ws M2 => sp (.ref p :: ws) M2 Q (fun cls xf M' => wd cls xf σ M')
theorem q_methW {wd : Value → XF → SD → MH → Prop} (hw : Y.wd = wd) (F : Fm g i k Y) {C : Addr} {j : Nat} {m : Str} {ps : List Str} {sp : SpD} {o e : Expr} {es : List Expr} {te : TEd} {t : TAd} {apos pos : Pos} {hot : Bool} {pl : Sem Bool} (c : Cls g.K C) (D : DfM g j C m ps sp hot) (ho : QE Y o te) (ha : QA Y (e :: es) t) (hj : j ≤ k := by first | exact Nat.le_refl _ | decide | omega)
    (hh : hot = true ∨ i.hot = false := by first | exact .inr rfl | exact .inl rfl)
    (hst : starEach (e :: es) Y.X.env = (false, eval e Y.X.env) :: starEach es Y.X.env := by rfl) (hpl : (backTo pos (starEach es Y.X.env)).any (·.1) = false := by rfl)
    (ht : eval (.Call (.Attribute o m apos) (e :: es) [] pos) Y.X.env = (do
      let ov ← eval o Y.X.env
      standAt apos.atName
      let (f, first) ← holding [ov] (getMethod ov m pl)
      callWith pos f first (backTo pos (starEach (e :: es) Y.X.env)) (backToKw pos (keywordEach [] Y.X.env))) := by rfl) : QE Y (.Call (.Attribute o m apos) (e :: es) [] pos) (tMthD C m sp wd te t) := by
  subst hw
  obtain ⟨f, fd, FD, hm, hb⟩ := D.ex
  refine ⟨fun s H σ M Q S h pins sh I => ?_⟩
  have c' : Cls Y.X.K C := by rw [F.hK]; exact c
  have hm' : Meth Y.X.K C m f := by rw [F.hK]; exact hm
  refine PySem.W.methodCall_KW (pl := pl) (thn (ho.run s H σ M _ S h pins sh I) fun u s1 ⟨x, H1, I1, rx, w, M1, e1, d1, r1, q1⟩ => ?_) ht
  obtain ⟨p, fs, rfl, hp, hl, q1⟩ := q1
  obtain ⟨dx, vs, g1, g2⟩ := d1 _ _ hp
  obtain rfl : x = .ref p := r1
  obtain rfl : u = Value.ref p := rx
  refine getmeth_ok I1 g1 c' hm' (wvF_none g2 hl) ?_
  have S1 := S.go e1 d1
  refine PySem.W.callWith_K (first := [.ref p]) (h₀ := Y.X.base) I.ok.mod.kin hm'.kp (thn ((ha.run s H1 σ M1 _ S1 q1) pos pins s1 I1) fun us s2 ⟨vs2, H2, I2, r2, ws, M2, e2, d2, r3, q2⟩ => ⟨I2.kIn, ?_⟩) hst hpl
  exact thn (fn_run F FD hh hj hb (S1.go e2 d2) (us := .ref p :: us) (vs := .ref p :: vs2) (ws := .ref p :: ws) (.cons rfl r3) q2 I2 (.cons rfl r2)) fun _ _ ⟨v, H3, I3, r4, z⟩ => ⟨v, H3, I3, r4, z.trans (e1.trans e2)⟩
theorem q_meth0W {wd : Value → XF → SD → MH → Prop} (hw : Y.wd = wd) (F : Fm g i k Y) {C : Addr} {j : Nat} {m : Str} {ps : List Str} {sp : SpD} {o : Expr} {te : TEd} {apos pos : Pos} {hot : Bool} {pl : Sem Bool} (c : Cls g.K C) (D : DfM g j C m ps sp hot) (ho : QE Y o te) (hj : j ≤ k := by first | exact Nat.le_refl _ | decide | omega)
    (hh : hot = true ∨ i.hot = false := by first | exact .inr rfl | exact .inl rfl)
    (ht : eval (.Call (.Attribute o m apos) [] [] pos) Y.X.env = (do
      let ov ← eval o Y.X.env
      standAt apos.atName
      let (f, first) ← holding [ov] (getMethod ov m pl)
      callWith pos f first (backTo pos (starEach [] Y.X.env)) (backToKw pos (keywordEach [] Y.X.env))) := by rfl) : QE Y (.Call (.Attribute o m apos) [] [] pos) (tMthD C m sp wd te tNilA) := by
  subst hw
  obtain ⟨f, fd, FD, hm, hb⟩ := D.ex
  refine ⟨fun s H σ M Q S h pins sh I => ?_⟩
  have c' : Cls Y.X.K C := by rw [F.hK]; exact c
  have hm' : Meth Y.X.K C m f := by rw [F.hK]; exact hm
  refine PySem.W.methodCall_KW (pl := pl) (thn (ho.run s H σ M _ S h pins sh I) fun u s1 ⟨x, H1, I1, rx, w, M1, e1, d1, r1, q1⟩ => ?_) ht
  obtain ⟨p, fs, rfl, hp, hl, q1⟩ := q1
  obtain ⟨dx, vs, g1, g2⟩ := d1 _ _ hp
  obtain rfl : x = .ref p := r1
  obtain rfl : u = Value.ref p := rx
  refine getmeth_ok I1 g1 c' hm' (wvF_none g2 hl) ?_
  have S1 := S.go e1 d1
  refine PySem.W.callWith_K0 (first := [.ref p]) I1.kIn hm'.kp ?_
  exact thn (fn_run F FD hh hj hb S1 (us := [.ref p]) (vs := [.ref p]) (ws := [.ref p]) (.cons rfl .nil) q1 I1 (.cons rfl .nil)) fun _ _ ⟨v, H3, I3, r4, z⟩ => ⟨v, H3, I3, r4, z.trans e1⟩
theorem RmH.make {k : Nat} {A : Around} (r : RmH (k + 1) A) (C : Addr) (us : List Value) (kw : List (Str × Value)) : RmH k (A.under (.builtin "type.__call__" ⟨.ref C :: us, kw⟩)) :=
  ⟨by have := r.dp; rw [make_depth]; omega, by have := r.un; rw [make_units]; omega⟩
/-- C(..), __init__ a def of the text -/
def tMakD (C : Addr) (sp : SpD) (wd : Value → XF → SD → MH → Prop) (t : TAd) : TEd := fun σ M Q => t σ M fun ws M1 => ∀ p, M1 p = none → sp (.ref p :: ws) (mset M1 p (.ins C [])) (fun w M2 => w = .d .none ∧ Q (.ref p) M2) (fun cls xf M' => wd cls xf σ M')
theorem make_run (F : Fm g i k Y) {C f : Addr} {j : Nat} {fd : FuncData} {ps : List Str} {sp : SpD} {hot : Bool} (mk : L2.Mk g.K C f) (D : FnG g j f fd ps sp hot) (hh : hot = true ∨ i.hot = false) (hj : j + 1 ≤ k) (hb : Binds g.K fd ps []) {s H σ M vs ws Q} (S : Std Y s H σ M) (r : WvA Y.X.K H M vs ws)
    (h : ∀ p, M p = none → sp (.ref p :: ws) (mset M p (.ins C [])) (fun w M2 => w = .d .none ∧ Q (.ref p) M2) (fun cls fs M' => Y.wd cls fs σ M')) {pins : List (Addr × Obj)} {sh : Shared} {us : List Value}
    (I : Inv Y.X pins s H sh) (ru : Vals vs us) : wpAny (model Y.X.prog Y.X.w) Y.X.A (call (.ref C) us) (EP Y.X pins s (up Y H M Q)) Y.X.xe sh := by
  have nx : H (sh.heap.objs.size + 1) = none := I.hok.fresh (Nat.le_succ _)
  have nd : H sh.heap.objs.size = none := I.hok.fresh (Nat.le_refl _)
  have ne : sh.heap.objs.size + 1 ≠ sh.heap.objs.size := Nat.ne_of_gt (Nat.lt_succ_self _)
  have I2 := Inv.made (C := C) I
  have md := S.d.free nd
  have mx := S.d.free nx
  have hq := h _ mx
  have e1 : Ext H M (upd H sh.heap.objs.size (.own (sh.heap.objs.size + 1))) M := ext_new nd md
  have d1 : Dok Y.X.K (upd H sh.heap.objs.size (.own (sh.heap.objs.size + 1))) M := dok_new S.d nd
  have nx1 : upd H sh.heap.objs.size (.own (sh.heap.objs.size + 1)) (sh.heap.objs.size + 1) = none := by rw [upd_ne ne]; exact nx
  have e2 : Ext (upd H sh.heap.objs.size (.own (sh.heap.objs.size + 1))) M (upd (upd H sh.heap.objs.size (.own (sh.heap.objs.size + 1))) (sh.heap.objs.size + 1) (.ins C sh.heap.objs.size [])) (mset M (sh.heap.objs.size + 1) (.ins C [])) := ext_mut (.inr nx1)
  have d2 : Dok Y.X.K (upd (upd H sh.heap.objs.size (.own (sh.heap.objs.size + 1))) (sh.heap.objs.size + 1) (.ins C sh.heap.objs.size [])) (mset M (sh.heap.objs.size + 1) (.ins C [])) := dok_mut (u := .ins C []) d1 (.inr nx1) fun _ => ⟨_, [], upd_same, .nil⟩
  have e12 := e1.trans e2
  have r2 : WvA Y.X.K (upd (upd H sh.heap.objs.size (.own (sh.heap.objs.size + 1))) (sh.heap.objs.size + 1) (.ins C sh.heap.objs.size [])) (mset M (sh.heap.objs.size + 1) (.ins C [])) (V.ref (sh.heap.objs.size + 1) :: vs) (W.ref (sh.heap.objs.size + 1) :: ws) := .cons rfl (WvA.ext e12 r)
  have ru2 : Vals (V.ref (sh.heap.objs.size + 1) :: vs) (Value.ref (sh.heap.objs.size + 1) :: us) := .cons rfl ru
  have lw := D.len _ _ _ _ hq
  have lu : (Value.ref (sh.heap.objs.size + 1) :: us).length = ps.length := by rw [← ru2.length, Paired.length r2, lw]
  have bd := hb _ (Value.ref (sh.heap.objs.size + 1) :: us) (by rw [← F.hK]; exact I2.kIn) (by rw [List.append_nil]; exact lu)
  rw [List.append_nil] at bd
  have S2 := (S.go e1 d1).go e2 d2
  have hl : lift g.K sp (V.ref (sh.heap.objs.size + 1) :: vs) (upd (upd H sh.heap.objs.size (.own (sh.heap.objs.size + 1))) (sh.heap.objs.size + 1) (.ins C sh.heap.objs.size [])) (fun v H2 => v = .non ∧ up Y H M Q (.ref (sh.heap.objs.size + 1)) H2) (fun cls d H' => upX Y Y.wd cls d s H') := by
    refine ⟨_, mset M (sh.heap.objs.size + 1) (.ins C []), _, _, by rw [← F.hK]; exact d2, by rw [← F.hK]; exact r2, hq, fun v H' w M' e d r q => ?_, fun cls d H' fs M' e dk xf w => ?_⟩
    · obtain ⟨rfl, q⟩ := q
      exact ⟨by cases r; rfl, .ref _, M', e12.trans e, by rw [F.hK]; exact d, rfl, q⟩
    · exact ⟨σ, M', fs, S2.go e (by rw [F.hK]; exact dk), by rw [F.hK]; exact xf, w⟩
  have e0 := I2.env0.make C us []
  rw [F.hP, F.hw, F.hK, F.hmg, F.hb] at e0
  have z := D.run (Y.X.A.under (.builtin "type.__call__" ⟨.ref C :: us, []⟩)) Y.X.stack _ _ ⟨Value.ref (sh.heap.objs.size + 1) :: us, []⟩ (Value.ref (sh.heap.objs.size + 1) :: us) _ _ _ F.gd (fun z => by rcases hh with h | h; (rw [h] at z; cases z); exact F.hd h) ((F.room.mono hj).make C us []) e0 bd ru2 hl
  have mk' : L2.Mk Y.X.K C f := by rw [F.hK]; exact mk
  rw [← F.hP, ← F.hw] at z
  refine wpAny_call (make_map (f := f) I.kIn mk'.makes mk'.init (beq_iff_eq.mp mk'.fn) (codeAny_mono z fun res s' hq' => ?_))
  cases res with
  | error e => exact passAt F.tk s pins _ _ e s' I2 hq'
  | ok fl =>
    cases fl with
    | ret u =>
      obtain ⟨v, H', I3, rv, ev, q3⟩ := I2.after hq'
      subst ev
      exact ⟨rv, ⟨V.ref (sh.heap.objs.size + 1), H', I3, rfl, q3⟩⟩
    | next => exact False.elim hq'
    | brk => exact False.elim hq'
    | cont => exact False.elim hq'
/-- a class that makes, with what its __init__ does -/
structure MkM (g : Gc) (j : Nat) (x : Str) (ps : List Str) (sp : SpD) (hot : Bool := false) : Prop where
  ex : ∃ f fd, L2.Mk g.K (clsA g x) f ∧ FnG g j f fd ps sp hot ∧ g.mg x = some (.ref (clsA g x)) ∧ Binds g.K fd ps []
theorem q_makeW {wd : Value → XF → SD → MH → Prop} (hw : Y.wd = wd) (F : Fm g i k Y) (jx : Nat) {j : Nat} {x : Str} {ps : List Str} {sp : SpD} {e : Expr} {es : List Expr} {t : TAd} {p pos : Pos} {hot : Bool} (D : MkM g j x ps sp hot) (ha : QA Y (e :: es) t) (hm : j + 1 ≤ k := by first | exact Nat.le_refl _ | decide | omega)
    (hj : i.gls[jx]? = some x := by rfl) (hh : hot = true ∨ i.hot = false := by first | exact .inr rfl | exact .inl rfl)
    (he : starEach (e :: es) Y.X.env = (false, eval e Y.X.env) :: starEach es Y.X.env := by rfl) (hpl : (backTo pos (starEach es Y.X.env)).any (·.1) = false := by rfl) : QE Y (.Call (.Name x p) (e :: es) [] pos) (tMakD (clsA g x) sp wd t) := by
  subst hw
  obtain ⟨h1, h2, h3⟩ := F.glo jx x hj
  obtain ⟨f, fd, mk, FD, mgf, hb⟩ := D.ex
  have mk' : L2.Mk Y.X.K (clsA g x) f := by rw [F.hK]; exact mk
  refine ⟨fun s H σ M Q S h pins sh I => ?_⟩
  refine wpAny_Call_Name_kw (ld_glob I h1 (by rw [F.hmg]; exact mgf) ?_ h2)
  refine PySem.W.callWith_K (h₀ := Y.X.base) I.ok.mod.kin mk'.kp (thn ((ha.run s H σ M _ S h) pos pins sh I) fun us s1 ⟨vs, H1, I1, r, ws, M1, e1, d1, r1, q1⟩ => ⟨I1.kIn, ?_⟩) he hpl
  exact thn (make_run F mk FD hh hm hb (S.go e1 d1) r1 q1 I1 r) fun _ _ ⟨v, H2, I2, r2, z⟩ => ⟨v, H2, I2, r2, z.trans e1⟩
theorem q_make0W {wd : Value → XF → SD → MH → Prop} (hw : Y.wd = wd) (F : Fm g i k Y) (jx : Nat) {j : Nat} {x : Str} {ps : List Str} {sp : SpD} {p pos : Pos} {hot : Bool} (D : MkM g j x ps sp hot) (hm : j + 1 ≤ k := by first | exact Nat.le_refl _ | decide | omega)
    (hj : i.gls[jx]? = some x := by rfl) (hh : hot = true ∨ i.hot = false := by first | exact .inr rfl | exact .inl rfl) : QE Y (.Call (.Name x p) [] [] pos) (tMakD (clsA g x) sp wd tNilA) := by
  subst hw
  obtain ⟨h1, h2, h3⟩ := F.glo jx x hj
  obtain ⟨f, fd, mk, FD, mgf, hb⟩ := D.ex
  have mk' : L2.Mk Y.X.K (clsA g x) f := by rw [F.hK]; exact mk
  refine ⟨fun s H σ M Q S h pins sh I => ?_⟩
  refine wpAny_Call_Name_kw (ld_glob I h1 (by rw [F.hmg]; exact mgf) ?_ h2)
  exact PySem.W.callWith_K0 I.kIn mk'.kp (make_run F mk FD hh hm hb S .nil h I .nil)
/-- e.f op= a number -/
def tFldAug (C : Addr) (te tv : TEd) (fn : Int → Int → Int) (f : Str) : TSd := fun D σ M => te σ M fun x M1 => ∃ p fs n, x = .ref p ∧ M1 p = some (.ins C fs) ∧ fs.lookup f = some (.d (.int n)) ∧
  tv σ M1 fun y M2 => ∃ b fs', y = .d (.int b) ∧ M2 p = some (.ins C fs') ∧ fs'.length < 1000 ∧ D.nx σ (mset M2 p (.ins C (putD f (.d (.int (fn n b))) fs')))
theorem s_fldaug (F : Fm g i k Y) {C : Addr} {o value : Expr} {op : Operator} {fn : Int → Int → Int} {f : Str} {te tv : TEd} {pos tpos : Pos} (c : Cls g.K C) (n : NoAttr g.K C f) (hp : PIp Y.X op (ipI fn)) (ho : QE Y o te) (hv : QE Y value tv) :
    QS Y (.AugAssign (.Attribute o f tpos) op value pos) (tFldAug C te tv fn f) := by
  refine ⟨fun s H σ M D S h => semS_of (ps_fldaug pe_sem pe_sem hp) ?_⟩
  refine ho.then_ S h fun u H1 w M1 e1 d1 r1 q => ?_
  obtain ⟨p, fs, m, rfl, hM, hl, q⟩ := q
  obtain ⟨dx, vs, h1, h2⟩ := d1 _ _ hM
  obtain ⟨x, h3, h4⟩ := wvF_look h2 hl
  have hx : x = .int m := h4.int
  subst hx
  have S1 := S.go e1 d1
  refine ⟨p, C, dx, vs, _, (show u = .ref p from r1), h1, by rw [F.hK]; exact c, by rw [F.hK]; exact n, h3, ?_⟩
  refine hv.then_ S1 q fun y H2 wy M2 e2 d2 r2 q2 => ?_
  obtain ⟨b, fs', rfl, hM2, hl2, q3⟩ := q2
  have hy : y = .int b := r2.int
  subst hy
  obtain ⟨dx2, vs2, g1, g2⟩ := d2 _ _ hM2
  have S2 := S1.go e2 d2
  have lv : vs2.length = fs'.length := Paired.length g2
  refine ⟨m, b, rfl, rfl, dx2, vs2, g1, by omega, ?_⟩
  have nn : M2 p ≠ none := by rw [hM2]; exact fun z => by cases z
  have e3 : Ext H2 M2 (upd H2 p (.ins C dx2 (putF f (.int (fn m b)) vs2))) (mset M2 p (.ins C (putD f (.d (.int (fn m b))) fs'))) := ext_mut (.inl nn)
  have d3 := dok_mut (u := .ins C (putD f (.d (.int (fn m b))) fs')) d2 (.inl nn) fun e => ⟨dx2, _, upd_same, wvF_put (w := .d (.int (fn m b))) (Fz.int _) (WvF.ext e g2)⟩
  exact ⟨σ, _, (e1.trans e2).trans e3, S2.go e3 d3, q3⟩
end
end Dl
set_option Elab.async false
set_option linter.all false
set_option maxRecDepth 100000
/-! methods: pop(), join, split; conversions of texts -/
namespace Dl
open PySem PySem.Spec PyProof.Rows L2
def rPopL : RMd := fun w us M Q => match w, us with
  | .ref p, [] => ∃ ws, M p = some (.lst ws) ∧ ∃ u, ws[ws.length - 1]? = some u ∧ Q u (mset M p (.lst ws.dropLast))
  | _, _ => False
theorem drop_paired {α β : Type} {R : α → β → Prop} : ∀ {xs : List α} {ys : List β}, Paired R xs ys → Paired R xs.dropLast ys.dropLast
  | _, _, .nil => .nil
  | _, _, .cons _ .nil => .nil
  | _, _, .cons r (.cons r2 t) => .cons r (drop_paired (.cons r2 t))
section
variable {g : Gc} {i : Si} {k : Nat} {Y : Dx}
theorem m_pop : MetD Y "list" "list.pop" "pop" tyMut rPopL := by
  refine ⟨rPop, PySem.F.plainAttrs_list, PySem.F.slot_list_pop, PySem.F.type_list_pop, mt_pop, fun S r h => tyMut_is S r h, ?_⟩
  intro s H σ M x w vs ws Q R S r rs q k
  unfold rPopL at q
  split at q
  · obtain ⟨xs, hm, u, hu, q⟩ := q
    obtain rfl := (show x = _ from r)
    obtain ⟨ys, h1, h2⟩ := S.d _ _ hm
    cases rs
    obtain ⟨y, e1, e2⟩ := paired_at h2 hu
    exact ⟨_, ys, y, rfl, rfl, h1, by rw [Paired.length h2]; exact e1, k _ _ (up_set S hm (drop_paired h2) e2 q)⟩
  · exact q.elim
theorem fz_strs {K : PySem.W.Frag} {H : Hp} {M : MH} : ∀ {zs : List Str} {xs : List V}, FzA K H M xs (zs.map PyData.str) → xs = zs.map V.str
  | [], _, h => by cases h; rfl
  | z :: zs, _, h => by
    cases h with
    | cons r t =>
      cases r
      rw [fz_strs t]
      rfl
def tyStrD : W → MH → Prop := fun w _ => ∃ z, w = .d (.str z)
/-- sep.join(texts) -/
def rJoinD : RMd := fun w us M Q => match w, us with
  | .d (.str a), [u] => seqQ u M fun ds _ => ∃ ys : List Str, ds = ys.map PyData.str ∧ (ys.map (·.length)).sum + ys.length * a.length ≤ 16777216 ∧ Q (.d (.str (Txt.join a ys))) M
  | _, _ => False
theorem m_join : MetD Y "str" "str.join" "join" tyStrD rJoinD := by
  refine ⟨_, PySem.F.plainAttrs_str, PySem.F.slot_str_join, PySem.F.type_str_join, mt_join, fun S r h => ?_, ?_⟩
  · obtain ⟨z, rfl⟩ := h
    cases r
    rfl
  · intro s H σ M x w vs ws Q R S r rs q k
    unfold rJoinD at q
    split at q
    · obtain ⟨v, rfl, rv⟩ := rs.one
      cases r
      obtain ⟨t, a, xs, ds, kc, rfl, h1, ⟨ys, rfl, hz, q⟩, f1⟩ := seqQ_here S.d rv q
      have e := fz_strs f1
      subst e
      refine ⟨_, a, ys, rfl, rfl, ?_, hz, k _ _ (S.here (w := .d (.str _)) (Fz.str _) q)⟩
      cases t with
      | true => exact .inr h1
      | false => exact .inl h1
    · exact q.elim
/-- x.split(sep), a list of texts -/
def rSplitD : RMd := fun w us M Q => match w, us with
  | .d (.str a), [.d (.str b)] => (b.length == 0) = false ∧ a.length + 2 ≤ sizeLine ∧ Q (.d (.list ((Txt.split a b).map PyData.str))) M
  | _, _ => False
theorem fz_of_strs {K : PySem.W.Frag} {H : Hp} {M : MH} : ∀ zs : List Str, FzA K H M (zs.map V.str) (zs.map PyData.str)
  | [] => .nil
  | z :: zs => .cons (Fz.str z) (fz_of_strs zs)
theorem m_split : MetD Y "str" "str.split" "split" tyStrD rSplitD := by
  refine ⟨_, PySem.F.plainAttrs_str, PySem.F.slot_str_split, PySem.F.type_str_split, mt_split, fun S r h => ?_, ?_⟩
  · obtain ⟨z, rfl⟩ := h
    cases r
    rfl
  · intro s H σ M x w vs ws Q R S r rs q k
    unfold rSplitD at q
    split at q
    · obtain ⟨h1, h2, q⟩ := q
      obtain ⟨v, rfl, rv⟩ := rs.one
      cases r
      cases rv
      exact ⟨_, _, rfl, rfl, h1, h2, fun p n => k _ _ (up_lst S n (fz_of_strs _) q)⟩
    · exact q.elim
end
/-! ### defs of classes, as the text leaves them -/
structure PlM (g : Gc) (C : Addr) (m q : Str) (st : Stmt) : Prop where
  ex : ∃ f fd, Fun g.K m q st f fd ∧ Meth g.K C m f
theorem dfm_of {g : Gc} {i : Si} {k : Nat} {C : Addr} {m q : Str} {st : Stmt} {ps : List Str} {sp : SpD} (P : PlM g C m q st) (hsy : SysOk g.base) (Sc : FnScope i.N ps (defScope st)) (ok : ScOk i (defScope st))
    (hb : ∀ (kV doc pm : Value) (an : Option Addr) (cdv ct : Value) (us : List Value), us.length = ps.length → bindArgs (PySem.W.fnOf m q (defArgs st) (defBody st) (defScope st) .none kV doc pm an cdv ct) ⟨us, []⟩ = pure (ps.zip us))
    (len : ∀ ws M Q E, sp ws M Q E → ws.length = ps.length)
    (body : ∀ (Y : Dx) (ws : List W) (M : MH) (Q : W → MH → Prop) (E : XD), Fm g i k Y → Y.wd = (fun cls fs _ M' => E cls fs M') → sp ws M Q E → ∃ t, QSs Y (defBody st) t ∧ t { nx := fun _ M' => Q (.d .none) M', rt := Q } (startD i.N ws) M) : DfM g (k + 1) C m ps sp i.hot := by
  obtain ⟨f, fd, F, h⟩ := P.ex
  exact ⟨f, fd, fng_of F Sc ok hsy len body, h, F.binds hb⟩
structure PlI (g : Gc) (x q : Str) (st : Stmt) : Prop where
  ex : ∃ f fd, Fun g.K "__init__" q st f fd ∧ L2.Mk g.K (clsA g x) f ∧ g.mg x = some (.ref (clsA g x))
theorem mkm_of {g : Gc} {i : Si} {k : Nat} {x q : Str} {st : Stmt} {ps : List Str} {sp : SpD} (P : PlI g x q st) (hsy : SysOk g.base) (Sc : FnScope i.N ps (defScope st)) (ok : ScOk i (defScope st))
    (hb : ∀ (kV doc pm : Value) (an : Option Addr) (cdv ct : Value) (us : List Value), us.length = ps.length → bindArgs (PySem.W.fnOf "__init__" q (defArgs st) (defBody st) (defScope st) .none kV doc pm an cdv ct) ⟨us, []⟩ = pure (ps.zip us))
    (len : ∀ ws M Q E, sp ws M Q E → ws.length = ps.length)
    (body : ∀ (Y : Dx) (ws : List W) (M : MH) (Q : W → MH → Prop) (E : XD), Fm g i k Y → Y.wd = (fun cls fs _ M' => E cls fs M') → sp ws M Q E → ∃ t, QSs Y (defBody st) t ∧ t { nx := fun _ M' => Q (.d .none) M', rt := Q } (startD i.N ws) M) : MkM g (k + 1) x ps sp i.hot := by
  obtain ⟨f, fd, F, h1, h2⟩ := P.ex
  exact ⟨f, fd, h1, fng_of F Sc ok hsy len body, h2, F.binds hb⟩
end Dl
set_option Elab.async false
set_option linter.all false
set_option maxRecDepth 100000
/-! written dicts with texts for keys: d[k], d.get(k) -/
namespace Dl
open PySem PySem.Spec PyProof.Rows L2
structure KVal (g : Gc) (x : Str) (d : Addr) (kvs : List (Str × PyData)) : Prop where
  m : g.mg x = some (.ref d)
  k : ∃ es n, g.K.lookup d = some ⟨.type "dict", none, .dict es n, #[]⟩ ∧ PySem.W.KeysLit g.w.params es.toList ∧ (d == sysModules) = false
  there : ∀ z dv, kvs.lookup z = some dv → ∃ u v, PySem.W.nsIn g.K d z = some (some u) ∧ RelV v u ∧ ∀ H M, Fz g.K H M v dv
  not : ∀ z, kvs.lookup z = none → PySem.W.nsIn g.K d z = some none
section
variable {g : Gc} {i : Si} {k : Nat} {Y : Dx}
def tKget (kvs : List (Str × PyData)) (te : TEd) : TEd := fun σ M Q => te σ M fun w M1 => match w with
  | .d (.str z) => Q (.d ((kvs.lookup z).getD .none)) M1
  | _ => False
theorem q_kget (F : Fm g i k Y) (j : Nat) {x : Str} {d : Addr} {kvs : List (Str × PyData)} {e : Expr} {te : TEd} {px apos cpos : Pos} (C : KVal g x d kvs) (he : QE Y e te) (hj : i.gls[j]? = some x := by rfl)
    (hbase : attributeBase (.Name x px) "get" Y.X.env (eval (.Name x px) Y.X.env) = eval (.Name x px) Y.X.env := by rfl)
    (hfew : ((backTo cpos (starEach [e] Y.X.env)).all (fun x => !x.1) && (backToKw cpos (keywordEach [] Y.X.env)).all (fun x => x.1.isSome) && decide (([e] : List Expr).length + ([] : List Keyword).length + (if ([] : List Keyword).isEmpty then 0 else 1) < 30)) = true := by rfl)
    (hline : (apos.endLine == cpos.line) = true := by rfl) (htr : backTo cpos (starEach [e] Y.X.env) = [(false, eval e Y.X.env)] := by rfl) :
    QE Y (.Call (.Attribute (.Name x px) "get" apos) [e] [] cpos) (tKget kvs te) := by
  obtain ⟨h1, h2, h3⟩ := F.glo j x hj
  obtain ⟨es, n, hl, hk, low⟩ := C.k
  refine ⟨fun s H σ M Q S h pins sh I => ?_⟩
  have hl' : Y.X.K.lookup d = some ⟨.type "dict", none, .dict es n, #[]⟩ := by rw [F.hK]; exact hl
  have hk' : PySem.W.KeysLit Y.X.w.params es.toList := by rw [F.hw]; exact hk
  refine wpAny_Call_method hbase hfew hline PySem.F.plainAttrs_dict PySem.F.slot_dict_get PySem.F.type_dict_get (ld_glob I h1 (by rw [F.hmg]; exact C.m) ?_ h2)
  have hm := PySem.W.mapOf_K (prog := Y.X.prog) (w := Y.X.w) I.kIn hl' hk'
  refine ⟨hm.typeIs, fun b q => ?_, ?_⟩
  · cases q
    exact ⟨_, I.kIn _ _ hl', rfl⟩
  rw [htr]
  refine Calls.callWith_builtin rfl (Calls.evalArgs_plain (Calls.spliced_cons (thn (he.run s H σ M _ S h pins sh I) fun u s1 ⟨v, H1, I1, rv, w, M1, e1, d1, r1, q1⟩ => Calls.spliced_nil ?_)))
  dsimp only at q1
  split at q1
  · rename_i z
    cases r1
    obtain ⟨t, rfl⟩ := (show ∃ t, u = Value.str z t from rv)
    have hm1 := PySem.W.mapOf_K (prog := Y.X.prog) (w := Y.X.w) I1.kIn hl' hk'
    have hu := F.room.un
    refine call_meetsIn PySem.F.slot_dict_get hm1.typeIs PySem.F.entry_dict_get (PySem.F.args_dict_get_2 _ _) (meets_dict_get (strKind Y.X.prog Y.X.w) d (strKind_is Y.X.prog Y.X.w z t) low) ⟨_, hm1, ?_⟩
    have S1 := S.go e1 d1
    have hK : Y.X.K = g.K := F.hK
    cases e : kvs.lookup z with
    | some dv =>
      obtain ⟨u', v', n1, r1, fz⟩ := C.there z dv e
      rw [PySem.W.find_K hl' (by rw [hK]; exact n1)]
      rw [e] at q1
      exact ⟨v', H1, I1.tok _, r1, (S1.here (w := .d dv) (by rw [hK]; exact fz _ _) q1).trans e1⟩
    | none =>
      rw [PySem.W.find_K hl' (by rw [hK]; exact C.not z e)]
      rw [e] at q1
      exact ⟨.non, H1, I1.tok _, rfl, (S1.here (w := .d .none) Fz.non q1).trans e1⟩
  · exact q1.elim
def tKix (kvs : List (Str × PyData)) (te : TEd) : TEd := fun σ M Q => te σ M fun w M1 => ∃ z dv, w = .d (.str z) ∧ kvs.lookup z = some dv ∧ Q (.d dv) M1
theorem q_kix (F : Fm g i k Y) (j : Nat) {x : Str} {d : Addr} {kvs : List (Str × PyData)} {e : Expr} {te : TEd} {px pos : Pos} (C : KVal g x d kvs) (he : QE Y e te) (hj : i.gls[j]? = some x := by rfl) (hs : PlainIx e := by intro _ _; rfl) :
    QE Y (.Subscript (.Name x px) e pos) (tKix kvs te) := by
  obtain ⟨h1, h2, h3⟩ := F.glo j x hj
  obtain ⟨es, n, hl, hk, low⟩ := C.k
  refine ⟨fun s H σ M Q S h => semE_of (pe_ix ix_kdict (pe_glob (v := .ref d) (u := .ref d) h1 (by rw [F.hmg]; exact C.m) rfl h2) pe_sem hs) ?_⟩
  refine he.then_ S h fun v H1 w M1 e1 d1 r1 q => ?_
  obtain ⟨z, dv, rfl, hz, q⟩ := q
  obtain ⟨u', v', n1, rv, fz⟩ := C.there z dv hz
  cases r1
  have S1 := S.go e1 d1
  exact ⟨d, z, v', rfl, rfl, ⟨es, n, u', by rw [F.hK]; exact hl, by rw [F.hw]; exact hk, by rw [F.hK]; exact n1, rv⟩, (S1.here (w := .d dv) (by rw [F.hK]; exact fz _ _) q).trans e1⟩
end
/-! ### a written dict, looked at -/
def chkKV (K : PySem.W.Frag) : List DictEntry → List (Str × PyData) → Bool
  | [], [] => true
  | e :: r, (k, dv) :: ks => (match e.key with | .str x _ => x == k | _ => false) && chkD K 60 e.val dv && chkKV K r ks
  | _, _ => false
theorem chkKV_ok {K : PySem.W.Frag} (z : Str) : ∀ (l : List DictEntry) (ks : List (Str × PyData)), chkKV K l ks = true → l.any (·.refKey) = false ∧ (∀ dv, ks.lookup z = some dv → ∃ e, l.find? (·.key.isStr z) = some e ∧ chkD K 60 e.val dv = true) ∧ (ks.lookup z = none → l.find? (·.key.isStr z) = none)
  | [], [], _ => by
    refine ⟨rfl, fun dv e => ?_, fun _ => rfl⟩
    cases e
  | e :: r, [], h => by simp [chkKV] at h
  | [], k :: ks, h => by simp [chkKV] at h
  | e :: r, (k, dv) :: ks, h => by
    simp only [chkKV, Bool.and_eq_true] at h
    obtain ⟨h1, h2, h3⟩ := chkKV_ok z r ks h.2
    obtain ⟨hh, key, val⟩ := e
    cases key with
    | str x t =>
      have hx : x = k := eq_of_beq h.1.1
      subst hx
      have e1 : (Value.str x t).isStr z = (x == z) := rfl
      refine ⟨by rw [List.any_cons, h1]; rfl, ?_, ?_⟩
      · intro dv' hl
        rw [List.lookup_cons] at hl
        rw [List.find?_cons]
        simp only [e1]
        by_cases q : x = z
        · subst q
          simp only [beq_self_eq_true] at hl ⊢
          cases hl
          exact ⟨_, rfl, h.1.2⟩
        · have q1 : (x == z) = false := beq_eq_false_iff_ne.mpr q
          have q2 : (z == x) = false := beq_eq_false_iff_ne.mpr fun w => q w.symm
          rw [q2] at hl
          rw [q1]
          exact h2 dv' hl
      · intro hl
        rw [List.lookup_cons] at hl
        rw [List.find?_cons]
        simp only [e1]
        by_cases q : x = z
        · subst q
          simp only [beq_self_eq_true] at hl
          cases hl
        · have q1 : (x == z) = false := beq_eq_false_iff_ne.mpr q
          have q2 : (z == x) = false := beq_eq_false_iff_ne.mpr fun w => q w.symm
          rw [q2] at hl
          rw [q1]
          exact h3 hl
    | _ => exact absurd h.1.1 (by simp)
theorem kval_of {g : Gc} {x : Str} {d : Addr} {es : Array DictEntry} {n : Nat} {kvs : List (Str × PyData)} (m : g.mg x = some (.ref d)) (at_ : g.K.lookup d = some ⟨.type "dict", none, .dict es n, #[]⟩) (lit : PySem.W.KeysLit g.w.params es.toList) (low : (d == sysModules) = false) (c : chkKV g.K es.toList kvs = true) : KVal g x d kvs := by
  refine ⟨m, ⟨es, n, at_, lit, low⟩, fun z dv hz => ?_, fun z hz => ?_⟩
  · obtain ⟨_, h2, _⟩ := chkKV_ok z es.toList kvs c
    obtain ⟨e, he, hc⟩ := h2 dv hz
    obtain ⟨v, r, fz⟩ := chkD_ok g.K 60 e.val dv hc
    refine ⟨e.val, v, ?_, r, fz⟩
    unfold PySem.W.nsIn
    rw [at_]
    simp only
    rw [he]
  · obtain ⟨h1, _, h3⟩ := chkKV_ok z es.toList kvs c
    unfold PySem.W.nsIn
    rw [at_]
    simp only
    rw [h3 hz, if_neg (by rw [h1]; exact Bool.false_ne_true)]
end Dl
set_option Elab.async false
set_option linter.all false
set_option maxRecDepth 100000
/-! dicts with keys of texts, that change: d[k], k in d, d[k] = v, {} -/
namespace Dl
open PySem PySem.Spec PyProof.Rows L2
def skv (l : List (Str × W)) : List (Key × W) := l.map fun q => (.inr q.1, q.2)
def sHas {α : Type} (l : List (Str × α)) (z : Str) : Bool := (l.lookup z).isSome
def sPut {α : Type} (l : List (Str × α)) (z : Str) (w : α) : List (Str × α) := if sHas l z = true then l.map (fun q => if q.1 = z then (q.1, w) else q) else l ++ [(z, w)]
theorem sPut_len {α : Type} (l : List (Str × α)) (z : Str) (w : α) : (sPut l z w).length ≤ l.length + 1 := by
  unfold sPut
  split
  · rw [List.length_map]; omega
  · simp
theorem sPut_map {α β : Type} (f : α → β) (l : List (Str × α)) (z : Str) (w : α) : sPut (l.map fun q => (q.1, f q.2)) z (f w) = (sPut l z w).map fun q => (q.1, f q.2) := by
  have e : sHas (l.map fun q => (q.1, f q.2)) z = sHas l z := by
    unfold sHas
    induction l with
    | nil => rfl
    | cons q r ih =>
      obtain ⟨k, x⟩ := q
      rw [List.map_cons, List.lookup_cons, List.lookup_cons]
      cases z == k
      · exact ih
      · rfl
  unfold sPut
  rw [e]
  split
  · rw [List.map_map, List.map_map]
    apply List.map_congr_left
    intro q _
    simp only [Function.comp]
    split <;> rfl
  · simp
theorem lookup_map {α β : Type} (f : α → β) (l : List (Str × α)) (z : Str) : (l.map fun q => (q.1, f q.2)).lookup z = (l.lookup z).map f := by
  induction l with
  | nil => rfl
  | cons q r ih =>
    obtain ⟨k, x⟩ := q
    rw [List.map_cons, List.lookup_cons, List.lookup_cons]
    cases z == k
    · exact ih
    · rfl
theorem sHas_map {α β : Type} (f : α → β) (l : List (Str × α)) (z : Str) : sHas (l.map fun q => (q.1, f q.2)) z = sHas l z := by
  unfold sHas
  rw [lookup_map, Option.isSome_map]
section
variable {K : PySem.W.Frag} {H : Hp} {M : MH}
theorem skv_at {z : Str} : ∀ {l : List (Str × W)} {vs : List (Key × V)}, WvK K H M vs (skv l) → (valV vs (.inr z) = none ∧ l.lookup z = none) ∨ ∃ v w, valV vs (.inr z) = some v ∧ l.lookup z = some w ∧ Wv K H M v w
  | [], vs, h => by cases h; exact .inl ⟨rfl, rfl⟩
  | (k, w) :: l, vs, h => by
    cases h with
    | @cons p _ vs _ r t =>
      obtain ⟨r1, r2⟩ := r
      rw [List.lookup_cons]
      by_cases e : z = k
      · subst e
        rw [valV_pos (k := (Sum.inr z : Key)) r1, beq_self_eq_true]
        exact .inr ⟨_, _, rfl, rfl, r2⟩
      · rw [valV_neg (k := (Sum.inr z : Key)) (fun q => e (by rw [r1] at q; exact (Sum.inr.inj q).symm)), beq_eq_false_iff_ne.mpr e]
        exact skv_at t
theorem skv_map {z : Str} {v : V} {w : W} (h : Wv K H M v w) : ∀ {l : List (Str × W)} {vs : List (Key × V)}, WvK K H M vs (skv l) → WvK K H M (vs.map fun kv => if kv.1 = .inr z then (kv.1, v) else kv) (skv (l.map fun q => if q.1 = z then (q.1, w) else q))
  | [], vs, h => by cases h; exact .nil
  | (k, w') :: l, vs, h' => by
    cases h' with
    | @cons p _ vs _ r t =>
      obtain ⟨r1, r2⟩ := r
      refine .cons ?_ (skv_map h t)
      dsimp only at r1 r2 ⊢
      by_cases e : k = z
      · rw [if_pos e, if_pos (by rw [r1, e])]
        exact ⟨r1, h⟩
      · rw [if_neg e, if_neg (fun q => e (by rw [r1] at q; exact Sum.inr.inj q))]
        exact ⟨r1, r2⟩
theorem skv_snoc {z : Str} {v : V} {w : W} (h : Wv K H M v w) : ∀ {l : List (Str × W)} {vs : List (Key × V)}, WvK K H M vs (skv l) → WvK K H M (vs ++ [(.inr z, v)]) (skv (l ++ [(z, w)]))
  | [], vs, h' => by cases h'; exact .cons ⟨rfl, h⟩ .nil
  | q :: l, vs, h' => by
    cases h' with
    | cons r t => exact .cons r (skv_snoc h t)
theorem skv_put {z : Str} {v : V} {w : W} (h : Wv K H M v w) {l : List (Str × W)} {vs : List (Key × V)} (h' : WvK K H M vs (skv l)) : WvK K H M (putK vs (.inr z) v) (skv (sPut l z w)) := by
  have e : (vs.any fun kv => decide (kv.1 = .inr z)) = sHas l z := by
    rw [valV_any]
    unfold sHas
    rcases skv_at (z := z) h' with ⟨e1, e2⟩ | ⟨_, _, e1, e2, _⟩ <;> rw [e1, e2] <;> rfl
  unfold putK sPut
  rw [e]
  split
  · exact skv_map h h'
  · exact skv_snoc h h'
end
section
variable {g : Gc} {i : Si} {k : Nat} {Y : Dx}
theorem dk_at {H : Hp} {M : MH} {a : Addr} {l : List (Str × W)} (D : Dok Y.X.K H M) (hm : M a = some (.dK (skv l))) (z : Str) : ∃ vs, H a = some (.dK vs) ∧ WvK Y.X.K H M vs (skv l) ∧ vs.length = l.length := by
  obtain ⟨vs, h1, h2⟩ := D a _ hm
  refine ⟨vs, h1, h2, ?_⟩
  rw [Paired.length h2]
  unfold skv
  rw [List.length_map]
/-- d[k] -/
def tSGet (to ti : TEd) : TEd := fun σ M Q => to σ M fun o M1 => ti σ M1 fun x M2 => match o, x with
  | .ref p, .d (.str z) => ∃ l u, M2 p = some (.dK (skv l)) ∧ l.lookup z = some u ∧ Q u M2
  | _, _ => False
theorem q_sget (F : Fm g i k Y) {a b : Expr} {ta tb : TEd} {pos : Pos} (ha : QE Y a ta) (hb : QE Y b tb) (hs : NoSl b := by intro _ _; rfl) : QE Y (.Subscript a b pos) (tSGet ta tb) := by
  refine ⟨fun s H σ M Q S h => semE_of (pe_dget (by have := F.room.un; omega) pe_sem pe_sem hs) (ha.then_ S h fun v1 H1 w1 M1 e1 d1 rw1 q => ?_)⟩
  have S1 := S.go e1 d1
  refine hb.then_ S1 q fun v2 H2 w2 M2 e2 d2 rw2 q2 => ?_

  split at q2
  · rename_i p z
    obtain ⟨l, u, hm, hl, q3⟩ := q2
    obtain rfl := (show v1 = _ from rw1)
    obtain rfl := rw2.str
    obtain ⟨vs, h1, h2, _⟩ := dk_at d2 hm z
    rcases skv_at (z := z) h2 with ⟨_, z2⟩ | ⟨v, w, z1, z2, z3⟩
    · rw [z2] at hl; cases hl
    · rw [z2] at hl
      cases hl
      exact ⟨p, v, rfl, .inl ⟨vs, .inr z, .inl h1, rfl, z1.symm⟩, ((S1.go e2 d2).here z3 q3).trans (e1.trans e2)⟩
  · exact q2.elim
/-- k in d, k not in d -/
def rSin (neg : Bool) : R2d := fun x o M Q => match x, o with
  | .d (.str z), .ref p => ∃ l, M p = some (.dK (skv l)) ∧ Q (.d (.bool (if neg then !sHas l z else sHas l z))) M
  | _, _ => False
theorem o_sin (F : Fm g i k Y) : Op2 Y (compareOp .In) (rSin false) := by
  intro s H σ M x y a b Q S rx ry q
  unfold rSin at q
  split at q
  · intro pins sh s' v u I r1 r2
    rename_i z p
    obtain ⟨l, hm, q3⟩ := q
    obtain rfl := (show y = _ from ry)
    obtain rfl := rx.str
    cases r2
    obtain ⟨vs, h1, h2, _⟩ := dk_at S.d hm z
    refine d_in (y := .str z) (by have := F.room.un; omega) I (.inl ⟨vs, .inr z, .inl h1, rfl, rfl⟩) r1 fun s3 I3 => ⟨.bl _, H, I3, rfl, S.here (wBool _) ?_⟩
    unfold sHas at q3
    rcases skv_at (z := z) h2 with ⟨z1, z2⟩ | ⟨v, w, z1, z2, z3⟩ <;> (rw [z1]; rw [z2] at q3; exact q3)
  · exact q.elim
theorem o_snotin (F : Fm g i k Y) : Op2 Y (compareOp .NotIn) (rSin true) := by
  intro s H σ M x y a b Q S rx ry q
  unfold rSin at q
  split at q
  · intro pins sh s' v u I r1 r2
    rename_i z p
    obtain ⟨l, hm, q3⟩ := q
    obtain rfl := (show y = _ from ry)
    obtain rfl := rx.str
    cases r2
    obtain ⟨vs, h1, h2, _⟩ := dk_at S.d hm z
    refine d_notIn (y := .str z) (by have := F.room.un; omega) I (.inl ⟨vs, .inr z, .inl h1, rfl, rfl⟩) r1 fun s3 I3 => ⟨.bl _, H, I3, rfl, S.here (wBool _) ?_⟩
    unfold sHas at q3
    rcases skv_at (z := z) h2 with ⟨z1, z2⟩ | ⟨v, w, z1, z2, z3⟩ <;> (rw [z1]; rw [z2] at q3; exact q3)
  · exact q.elim
/-- d[k] = v -/
def gSPut (to ti : TEd) : TGd := fun v σ M Q => to σ M fun o M1 => ti σ M1 fun x M2 => match o, x with
  | .ref p, .d (.str z) => ∃ l, M2 p = some (.dK (skv l)) ∧ l.length < sizeLine ∧ Q σ (mset M2 p (.dK (skv (sPut l z v))))
  | _, _ => False
theorem g_sput (F : Fm g i k Y) {o j : Expr} {to ti : TEd} {pos : Pos} (ho : QE Y o to) (hi : QE Y j ti)
    (ha : ∀ v, assign (.Subscript o j pos) Y.X.env v = (do
      let ov ← holding [v] (eval o Y.X.env)
      let iv ← holding [v, ov] (eval j Y.X.env)
      standAt pos
      holding [v, ov, iv] (setItem ov iv v)
      release [v, ov, iv] []) := by intro _; rfl) : QG Y (.Subscript o j pos) (gSPut to ti) := by
  refine ⟨fun s H σ M v w Q S r h => semG_of (pg_sub pe_sem pe_sem set_sem ha) (ho.then_ S h fun vo H1 wo M1 e d r1 q => hi.then_ (S.go e d) q fun vi H2 wi M2 e2 d2 r2 q2 => ?_)⟩
  have rv := r.ext (e.trans e2)
  split at q2
  · rename_i p z
    obtain ⟨l, hm, hz, q3⟩ := q2
    intro pins sh s' ov iv u I ro ri ru
    obtain rfl := (show vo = _ from r1)
    obtain rfl := r2.str
    cases ro
    obtain ⟨vs, h1, h2, hl⟩ := dk_at d2 hm z
    have nn : M2 p ≠ none := by rw [hm]; exact fun z => by cases z
    have X1 : Ext H2 M2 (upd H2 p (.dK (putK vs (.inr z) v))) (mset M2 p (.dK (skv (sPut l z w)))) := ext_mut (.inl nn)
    have D1 := dok_mut (u := .dK (skv (sPut l z w))) (o := .dK (putK vs (.inr z) v)) d2 (.inl nn) fun e => ⟨_, upd_same, WvK.ext e (skv_put rv h2)⟩
    refine d_setItem (by have := F.room.un; omega) I (DPut.k (k := (Sum.inr z : Key)) h1 (by omega)) ri ru fun s4 I4 => ?_
    exact ⟨_, I4, σ, _, (e.trans e2).trans X1, S.go ((e.trans e2).trans X1) D1, q3⟩
  · exact q2.elim
/-- {} -/
def tSNew : TEd := fun _ M Q => ∀ p, M p = none → Q (.ref p) (mset M p (.dK (skv [])))
theorem q_snew (F : Fm g i k Y) {pos : Pos} : QE Y (.Dict [] [] pos) tSNew := by
  refine ⟨fun s H σ M Q S h => semE_of pe_dnewK fun p n => ?_⟩
  have X1 : Ext H M (upd H p (.dK [])) (mset M p (.dK (skv []))) := ext_mut (.inr n)
  exact ⟨.ref p, _, X1, dok_mut (u := .dK (skv [])) S.d (.inr n) fun _ => ⟨[], upd_same, .nil⟩, rfl, h p (S.d.free n)⟩
/-- str(x) of a number or a text -/
def rStrX : RCd := fun ws M Q => match ws with
  | [.d (.int n)] => n.natAbs.log2 < 1920 ∧ Q (.d (.str (toString n))) M
  | [.d (.str z)] => Q (.d (.str z)) M
  | _ => False
theorem c_strX : OpC Y (.type "str") rStrX := by
  intro s H σ M xs ws Q S rx q
  unfold rStrX at q
  split at q
  · obtain ⟨v, rfl, r⟩ := rx.one
    exact semC_of call_str_int ⟨_, by rw [r.int], q.1, S.here (wStr _) q.2⟩
  · obtain ⟨v, rfl, r⟩ := rx.one
    exact semC_of SkE.call_str_str ⟨_, by rw [r.str], S.here (wStr _) q⟩
  · exact q.elim
end
end Dl
set_option Elab.async false
set_option linter.all false
set_option maxRecDepth 100000
/-! a, b, .. = a list -/
namespace Dl
open PySem PySem.Spec PyProof.Rows L2
section
variable {g : Gc} {i : Si} {k : Nat} {Y : Dx}
def gLstD (n : Nat) (t : TGsd) : TGd := fun w σ M Q => match w with
  | .d (.list ds) => ds.length = n ∧ t (ds.map W.d) σ M Q
  | .ref p => ∃ ws, M p = some (.lst ws) ∧ ws.length = n ∧ t ws σ M Q
  | _ => False
theorem g_lst (F : Fm g i k Y) {es : List Expr} {kk : Nat} {t : TGsd} {n : Nat} {pos : Pos} (h : QGs Y es t) (hn : (assignEach es Y.X.env).length = n := by rfl) (hst : (assignEach es Y.X.env).findIdx? (·.1) = none := by rfl) (hc : i.hot = false := by rfl) : QG Y (.Tuple es kk pos) (gLstD n t) := by
  refine ⟨fun s H σ M v w Q S r hq => ?_⟩
  unfold gLstD at hq
  split at hq
  · obtain ⟨p, xs, rfl, h1, h2⟩ := r.lst
    exact semG_of (pg_lst (F.calm hc) pgs_sem hn hst) ⟨p, xs, rfl, h1.sq, by rw [h2.length]; exact hq.1, h.run s H σ M xs _ Q S h2.wv hq.2⟩
  · obtain ⟨ws, hm, hl, hq⟩ := hq
    obtain rfl := (show v = _ from r)
    obtain ⟨xs, h1, h2⟩ := S.d _ _ hm
    exact semG_of (pg_lst (F.calm hc) pgs_sem hn hst) ⟨_, xs, rfl, .inl (.inl h1), by rw [Paired.length h2]; exact hl, h.run s H σ M xs _ Q S h2 hq⟩
  · exact hq.elim
end
/-! ### what a law's end tells of classes -/
theorem plm_of {g : Gc} {x : Str} {C f : Addr} {m q : Str} {st : Stmt} {fd : FuncData} (h : g.mg x = some (.ref C)) (F : Fun g.K m q st f fd) (k : Meth g.K C m f) : PlM g (clsA g x) m q st := by
  rw [clsA_of h]
  exact ⟨f, fd, F, k⟩
theorem pli_of {g : Gc} {x : Str} {C f : Addr} {q : Str} {st : Stmt} {fd : FuncData} (h : g.mg x = some (.ref C)) (F : Fun g.K "__init__" q st f fd) (k : L2.Mk g.K C f) : PlI g x q st := by
  have e := clsA_of h
  exact ⟨f, fd, F, by rw [e]; exact k, by rw [e]; exact h⟩
theorem cls_of {g : Gc} {x : Str} {C : Addr} (h : g.mg x = some (.ref C)) (k : Cls g.K C) : Cls g.K (clsA g x) := by rw [clsA_of h]; exact k
theorem noat_of {g : Gc} {x f : Str} {C : Addr} (h : g.mg x = some (.ref C)) (k : NoAttr g.K C f) : NoAttr g.K (clsA g x) f := by rw [clsA_of h]; exact k
end Dl
set_option Elab.async false
set_option linter.all false
set_option maxRecDepth 100000
/-! a lambda without parameters, handed to a def of the text that calls it -/
namespace Dl
open PySem PySem.Spec PyProof.Rows L2
/-- what a call of the lambda does -/
abbrev LamT := (W → MH → Prop) → XD → MH → Prop
def tAct (j : Nat) (lf : Addr) (wd : Value → XF → SD → MH → Prop) (tl : LamT) : TEd := fun σ M Q => slotQ σ j fun w => w = .ref lf ∧ tl Q (fun cls fs M' => wd cls fs σ M') M
/-- every context of a def that was entered at this state may call the lambda at lf -/
def Acts (g : Gc) (outer : List Env) (s : Shared) (H : Hp) (M : MH) (a : Str) (lf : Addr) (kL : Nat) (tl : LamT) : Prop :=
  ∀ {i : Si} {k : Nat} (Y : Dx), Fm g i k Y → CtxAt Y outer s H M → kL + 1 ≤ k → i.hot = false → ∀ (j : Nat) (p1 p2 : Pos), i.N[j]? = some a → i.vis.contains j = true → QE Y (.Call (.Name a p1) [] [] p2) (tAct j lf Y.wd tl)
theorem CtxAt.within {Y Y' : Dx} {outer : List Env} {s : Shared} {H : Hp} {M : MH} (C : CtxAt Y outer s H M) (w : Within Y Y') : CtxAt Y' outer s H M :=
  ⟨w.o.trans C.o, w.x.trans C.x, w.h.trans C.h, w.s.trans C.s, C.e.trans w.e⟩
theorem q_act {g : Gc} {i : Si} {k : Nat} {Y : Dx} {wd : Value → XF → SD → MH → Prop} (hw : Y.wd = wd) (F : Fm g i k Y) {outer : List Env} {s : Shared} {H : Hp} {M : MH} {a : Str} {lf : Addr} {kL : Nat} {tl : LamT} (C : CtxAt Y outer s H M) (A : Acts g outer s H M a lf kL tl) (j : Nat) {p1 p2 : Pos}
    (hm : kL + 1 ≤ k := by first | exact Nat.le_refl _ | decide | omega) (hN : i.N[j]? = some a := by rfl) (hv : i.vis.contains j = true := by rfl) (hh : i.hot = false := by rfl) : QE Y (.Call (.Name a p1) [] [] p2) (tAct j lf wd tl) := by
  subst hw
  exact A Y F C hm hh j p1 p2 hN hv
/-- a lambda's names, as its Si tells them -/
structure LamOk (iL i : Si) (scope : Scope) : Prop where
  n : iL.N = i.N
  s : iL.sc = scope
  v : visOk iL.N scope iL.vis = true
  l : iL.loc = []
  c : iL.cel = []
  g : gloOk scope iL.gls = true
  h : iL.hot = false
section
variable {g : Gc} {i iL : Si} {k kL : Nat} {Y : Dx}
theorem fm_lam (F : Fm g i k Y) {scope : Scope} (ok : LamOk iL i scope) {A : Around} {outer : List Env} {s : Shared} {H : Hp} {M : MH} {E : XK} {f c' : Addr} {Ed : XD} (hgd : A.guards = some []) (hd : A.handled = none) (hr : RmH (kL + 1) A)
    (kE : ∀ cls d H' fs M', Ext H M H' M' → Dok g.K H' M' → XFs g.K H' M' d fs → Ed cls fs M' → E cls d H') :
    Fm g iL kL { X := LamX.lamCx Y.X A outer s H E scope f c', H0 := H, M0 := M, wd := fun cls fs _ M' => Ed cls fs M' } := by
  refine ⟨F.hP, F.hw, F.hK, F.hmg, F.hb, F.N.trans ok.n.symm, ok.s.symm, by rw [ok.n]; exact F.nd, fun _ => rfl, fun _ => hd, hgd, hr.deeper _, fun _ => ⟨rfl, rfl⟩, vis_of ok.v, fun j x h => ?_, fun j x h => ?_, glo_of ok.g, F.sy, ?_, ?_⟩
  · rw [ok.l] at h
    cases h
  · rw [ok.c] at h
    cases h
  · refine (takes_of (E := E) rfl rfl rfl rfl).imp fun cls d s' H' ⟨σ', M', fs, S', xf, w⟩ => ?_
    have e : Ext H M H' M' := S'.e
    have dd : Dok Y.X.K H' M' := S'.d
    have xx : XFs Y.X.K H' M' d fs := xf
    rw [F.hK] at dd xx
    exact kE cls d H' fs M' e dd xx w
  · exact passes_of rfl
/-- a lambda that stands may be called -/
theorem acts_of (F : Fm g i k Y) {pins : List (Addr × Obj)} {sh : Shared} {s : L2.St} {H : Hp} {σ : SD} {M : MH} (I : Inv Y.X pins s H sh) (S : Std Y s H σ M) {params : Arguments} {body : Expr} {scope : Scope} {f c' : Addr} {pm ctv : Value} {a : Str} {te : (Value → XF → SD → MH → Prop) → TEd}
    (L : LamX.LamS Y.X.env.scope scope) (ok : LamOk iL i scope) (obj : sh.heap.get? f = some (PySem.W.kla_obj "<lambda>" (Y.X.env.qual ++ "<lambda>") params body scope (cloFrom Y.X.env.cells scope.names []) pm c' ctv)) (fn : H f = none) (fr : f ∉ frs Y.X.stack)
    (hc : H c' = some (LamX.CodeO c' (Y.X.env.qual ++ "<lambda>"))) (mc : M c' = none)
    (bind : bindArgs (PySem.W.kla_fn "<lambda>" (Y.X.env.qual ++ "<lambda>") params body scope (cloFrom Y.X.env.cells scope.names []) pm (.ref c') ctv) ⟨[], []⟩ = pure [])
    (hbody : ∀ wd (YL : Dx), Fm g iL kL YL → YL.wd = wd → QE YL body (te wd)) (ndb : (a == ("__debug__" : Str)) = false := by decide) :
    Acts g Y.X.stack sh H M a f kL (fun Q E M' => te (fun cls fs _ M'' => E cls fs M'') σ M' Q) := by
  intro iz kz Yz Fz C hk hhot jz p1 p2 hN hv
  refine ⟨fun sz Hz σz Mz Q Sz h => ?_⟩
  intro pinz shz Iz
  obtain ⟨w, ew, rfl, ht⟩ := slotQ_get h
  obtain ⟨v, ev, rv⟩ := Sz.s.get ew
  obtain rfl : v = .ref f := rv
  obtain ⟨n1, n2, n3⟩ := Fz.var jz a hv hN
  have hext : Ext H M Hz Mz := C.e.trans Sz.e
  refine wpAny_Call_Name_kw (thn ((pe_var (pos := p1) (i := jz) (by rw [Fz.N]; exact hN) n1 n2 n3).run pinz shz sz Hz (fun v H1 => v = .ref f ∧ H1 = Hz) Iz ⟨.ref f, ev, rfl, rfl⟩) fun u s1 ⟨v1, H1, I1, r1, q1⟩ => ?_)
  obtain ⟨q1, q2⟩ := q1
  subst q1
  subst q2
  obtain rfl : u = Value.ref f := r1
  have un : Un (frs Y.X.stack) [] H H1 sh.heap s1.heap := by
    have b := I1.base
    unfold Cx.fs at b
    rw [C.o, C.x, C.h, C.s] at b
    exact b
  have obj1 := un.keep f _ obj fn fr (fun z => nomatch (show f ∈ ([] : List Addr) from z))
  refine PySem.W.callWith_F0 ⟨_, _, _, _, obj1⟩ ?_
  have hz' := (hext.at' hc mc LamX.codeO_ne).1
  obtain ⟨⟨oc, vs, t, k1, k2, k3⟩, _⟩ := I1.hok c' _ hz'
  have e0 : Env0 Y.X.prog Y.X.w Y.X.K Y.X.mg Y.X.base Yz.X.A Yz.X.stack s1 H1 := by
    have z := I1.env0
    rw [Fz.hP, Fz.hw, Fz.hK, Fz.hmg, Fz.hb, ← F.hP, ← F.hw, ← F.hK, ← F.hmg, ← F.hb] at z
    exact z
  have run : codeAny (model Yz.X.prog Yz.X.w) Yz.X.A (.call (.ref f) ⟨[], []⟩) (CR (L2.CX Yz.X.prog Yz.X.w) Yz.X.stack Yz.X.prog Yz.X.w H1 s1 (up Yz H1 Mz Q) (fun cls d H' => upX Yz Yz.wd cls d sz H')) s1 := by
    have hrm : RmH (kL + 1) Yz.X.A := Fz.room.mono hk
    rw [Fz.hP, Fz.hw, ← F.hP, ← F.hw]
    refine PySem.W.kla_callFunE hrm.depth obj1 rfl L.co L.gen rfl ⟨c', oc, vs, t, rfl, k1, k2, k3⟩ ?_
    rw [bind]
    refine wpAny_pure (wpAny_newFunctionEnv (fun y hy => (L.own y hy).2) (fun y hy => absurd hy (by simp)) (fun h₁ hns hsb => ⟨I1.nolimit.fresh _ hsb, ?_⟩) L.kind)
    show codeAny _ _ (.expr body (LamX.lamEnv Y.X scope s1.heap.objs.size f c')) _ _
    have keep1 : ∀ b o, s1.heap.get? b = some o → h₁.get? b = some o := fun b o e => hsb.extBut b o (Nat.ne_of_lt (Heap.lt_size e)) (Heap.get?_push_of_some _ e)
    let EK : XK := fun cls d H' => upX Yz Yz.wd cls d sz H'
    have J := LamX.lam_start2 (E := EK) (f := f) (c' := c') (tk := s1.toks + ([] : List (Str × Value)).length) I L e0 (Fz.hd hhot) un hns keep1
    have Kz : Yz.X.K = Y.X.K := by rw [Fz.hK, F.hK]
    have FL : Fm g iL kL { X := LamX.lamCx Y.X Yz.X.A Yz.X.stack s1 H1 EK scope f c', H0 := H1, M0 := Mz, wd := fun cls fs _ M' => Yz.wd cls fs σz M' } := by
      refine fm_lam F ok Fz.gd (Fz.hd hhot) hrm (fun cls d H' fs M' e dk xf w => ?_)
      exact ⟨σz, M', fs, Sz.go e (by rw [Fz.hK]; exact dk), by rw [Fz.hK]; exact xf, w⟩
    have SL : Std { X := LamX.lamCx Y.X Yz.X.A Yz.X.stack s1 H1 EK scope f c', H0 := H1, M0 := Mz, wd := fun cls fs _ M' => Yz.wd cls fs σz M' } s H1 σ Mz := by
      refine ⟨.refl _ _, ?_, S.s.ext hext⟩
      show Dok Y.X.K H1 Mz
      rw [← Kz]
      exact Sz.d
    have bd := (hbody _ _ FL rfl).run s H1 σ Mz Q SL ht [] _ J
    refine PySem.W.kla_codeExpr (wpAny_mono bd (fun v2 s2 hq => ?_) fun e s2 hq => hq)
    obtain ⟨v3, H3, J3, r3, q3⟩ := hq
    refine ⟨v3, H3, J3.os, J3.bare, J3.base, J3.hok, r3, ?_⟩
    obtain ⟨w4, M4, e4, d4, r4, q4⟩ := q3
    refine ⟨w4, M4, e4, ?_, ?_, q4⟩
    · rw [Kz]; exact d4
    · rw [Kz]; exact r4
  refine wpAny_call (codeAny_mono run fun r s2 hq => ?_)
  cases r with
  | error e => exact passAt Fz.tk sz pinz H1 s1 e s2 I1 hq
  | ok fl =>
    cases fl with
    | ret u => exact I1.after hq
    | next => exact (show False from hq).elim
    | brk => exact (show False from hq).elim
    | cont => exact (show False from hq).elim
/-- a def that is handed a lambda: what it makes of the lambda's reading -/
structure LamFn (g : Gc) (k kL : Nat) (x a : Str) (sp : LamT → MH → (W → MH → Prop) → XD → Prop) : Prop where
  ex : ∃ f fd, g.mg x = some (.ref f) ∧ PySem.W.keepIn g.K (.ref f) = true ∧ Binds g.K fd [a] [] ∧
    ∀ {A : Around} {outer : List Env} {s : Shared} {H : Hp} {lf : Addr} {tl : LamT} {M : MH} {Qd : W → MH → Prop} {Ed : XD} {Q : VK} {E : XK}, A.guards = some [] → A.handled = none → RmH k A → Env0 g.P g.w g.K g.mg g.base A outer s H → BindsTo s fd ⟨[.ref lf], []⟩ [(a, .ref lf)] → Dok g.K H M → Acts g outer s H M a lf kL tl → sp tl M Qd Ed →
      (∀ v H' w M', Ext H M H' M' → Dok g.K H' M' → Wv g.K H' M' v w → Qd w M' → Q v H') → (∀ cls d H' fs M', Ext H M H' M' → Dok g.K H' M' → XFs g.K H' M' d fs → Ed cls fs M' → E cls d H') →
      codeAny (model g.P g.w) A (.call (.ref f) ⟨[.ref lf], []⟩) (CR (L2.CX g.P g.w) outer g.P g.w H s Q E) s
theorem lamfn_of {x a : Str} {st : Stmt} {sp : LamT → MH → (W → MH → Prop) → XD → Prop} (P : Pl g x st) (hsy : SysOk g.base) (Sc : FnScope i.N [a] (defScope st)) (ok : ScOk i (defScope st)) (hot : i.hot = false)
    (hb : ∀ (kV doc pm : Value) (an : Option Addr) (cdv ct : Value) (us : List Value), us.length = [a].length → bindArgs (PySem.W.fnOf x x (defArgs st) (defBody st) (defScope st) .none kV doc pm an cdv ct) ⟨us, []⟩ = pure ([a].zip us))
    (body : ∀ (Y : Dx) {outer : List Env} {s : Shared} {H : Hp} {M : MH} {lf : Addr} {tl : LamT} (Q : W → MH → Prop) (E : XD), Fm g i k Y → Y.wd = (fun cls fs _ M' => E cls fs M') → CtxAt Y outer s H M → Acts g outer s H M a lf kL tl → sp tl M Q E → ∃ t, QSs Y (defBody st) t ∧ t { nx := fun _ M' => Q (.d .none) M', rt := Q } (startD i.N [.ref lf]) M) :
    LamFn g (k + 1) kL x a sp := by
  obtain ⟨f, fd, F, m⟩ := P.ex
  refine ⟨f, fd, m, F.kp, F.binds hb, fun {A outer s H lf tl M Qd Ed Q E} hgd hh hr e0 hbt hD act h kQ kE => ?_⟩
  exact fng_at (us := [.ref lf]) (vs := [.ref lf]) (ws := [.ref lf]) F Sc ok hsy hgd (fun _ => hh) hr e0 hbt (.cons rfl .nil) hD (.cons rfl .nil) rfl kQ kE fun Y F' hw C _ _ => body Y Qd Ed F' hw C act h
/-- the entries of a table are code objects of this name, and have G -/
def TabG (H : Hp) (P : Addr) (q : Str) (G : Addr → Prop) : Prop := ∃ ps : Array Value, H P = some (.tbl ps) ∧ TriplesOk ps.toList ∧ ∀ (pos : Pos) (cv : Value), codeAmong pos ps.toList = some cv → ∃ c, cv = .ref c ∧ H c = some (LamX.CodeO c q) ∧ G c
/-- a lambda made: the table and a new code object alone are changed, or nothing is -/
theorem lam_new {X : Cx} {pins : List (Addr × Obj)} {σ : L2.St} {H : Hp} {s : Shared} {c P : Addr} {G : Addr → Prop} {params : Arguments} {body : Expr} {scope : Scope} {pos : Pos} {E : Value → Shared → Prop} {Q : Value → Shared → Prop} (I : Inv X pins σ H s) (TB : LamX.TabB X.base X.mg c P) (hcode : X.env.code = .ref c)
    (T : TabG H P (X.env.qual ++ "<lambda>") G) (hnew : ∀ c, H c = none → G c) (hdef : defaultsOf params X.env = ([], [])) (hfree : ∀ y ∈ scope.names, y.2 = .free → ∃ c, X.env.cells.lookup y.1 = some c)
    (k : ∀ (f c' : Addr) (pm ctv : Value) (H1 : Hp) (s' : Shared), Inv X pins σ H1 s' → (∀ b o, b ≠ P → H b = some o → H1 b = some o) → TabG H1 P (X.env.qual ++ "<lambda>") G → G c' → H1 c' = some (LamX.CodeO c' (X.env.qual ++ "<lambda>")) →
      s'.heap.get? f = some (PySem.W.kla_obj "<lambda>" (X.env.qual ++ "<lambda>") params body scope (cloFrom X.env.cells scope.names []) pm c' ctv) → H1 f = none → f ∉ frs X.stack → Q (.ref f) s') :
    wpAny (model X.prog X.w) X.A (eval (.Lambda params body scope pos) X.env) Q E s := by
  obtain ⟨ps, tP, tt, te⟩ := T
  have bm : s.heap.BuiltinsAt X.mg P := TB.bm.keeps I.bk
  have gl := I.mod.glob.keeps I.bk
  have cd := TB.code.keeps I.bk
  have tobj : s.heap.get? P = some { cls := .none, data := .fields ps } := I.hok P _ tP
  have unframed : ∀ f, s.heap.objs.size ≤ f → f ∉ frs X.stack := by
    intro f hf hm
    rcases List.mem_cons.mp (I.stkSub _ hm) with e | e
    · have below := I.lt
      rw [← e] at below
      exact absurd (Nat.lt_of_lt_of_le below hf) (Nat.lt_irrefl _)
    · exact I.nofs hf e
  refine PySem.W.kla_eval hdef ?_
  cases hit : codeAmong pos ps.toList with
  | some cv =>
    obtain ⟨c1, rfl, e1, g1⟩ := te pos cv hit
    refine PySem.W.kla_makeFunctionHit (c := c) (mg := X.mg) (ps := ps) (P := P) (closure_ok hfree) I.ok.glob gl hcode cd tobj tt hit bm fun ctv h2 tk keep size => ?_
    exact k _ c1 _ ctv H _ (I.kept fun b o e => Heap.get?_push_of_some _ (keep b o e)) (fun _ _ _ e => e) ⟨ps, tP, tt, te⟩ g1 e1 (Heap.get?_push_size _ rfl) (I.hok.fresh size) (unframed _ size)
  | none =>
    refine PySem.W.kla_makeFunction (c := c) (mg := X.mg) (ps := ps) (P := P) (closure_ok hfree) I.ok.glob gl hcode cd tobj tt hit TB.gP bm fun c1 ctv h2 tk keep ge lt rec tab => ?_
    obtain ⟨c2, oc, fs, t, ec, goc, doc, nm⟩ := rec
    cases ec
    have free1 : H c1 = none := I.hok.fresh ge
    have newer : s.heap.objs.size ≤ h2.objs.size := by omega
    have pc : P ≠ c1 := ne_of_none tP free1
    have J := LamX.inv_table (q := X.env.qual ++ "<lambda>") (t' := tk) (more := #[rawInt pos.line, rawInt pos.col, .ref c1]) (h' := h2.push (PySem.W.kla_obj "<lambda>" (X.env.qual ++ "<lambda>") params body scope (cloFrom X.env.cells scope.names []) ((X.mg "__name__").getD .none) c1 ctv)) I tP
      (fun b o nb e => Heap.get?_push_of_some _ (keep b o nb e)) (Heap.get?_push_of_some _ tab) ge ⟨oc, fs, t, Heap.get?_push_of_some _ goc, doc, nm⟩
    have other : ∀ b o, b ≠ P → H b = some o → upd (upd H P (.tbl (ps ++ #[rawInt pos.line, rawInt pos.col, .ref c1]))) c1 (LamX.CodeO c1 (X.env.qual ++ "<lambda>")) b = some o := by
      intro b o nb e
      rw [upd_ne (ne_of_none e free1), upd_ne nb]
      exact e
    have gc1 := hnew c1 free1
    refine k h2.objs.size c1 _ ctv _ _ J other ⟨_, by rw [upd_ne pc, upd_same], ?_, ?_⟩ gc1 upd_same (Heap.get?_push_size _ rfl) ?_ (unframed _ newer)
    · rw [show (ps ++ #[rawInt pos.line, rawInt pos.col, .ref c1]).toList = ps.toList ++ [rawInt pos.line, rawInt pos.col, .ref c1] by simp]
      exact PySem.TriplesOk_snoc _ _ _ _ tt
    · intro p2 cv2 h3
      rw [show (ps ++ #[rawInt pos.line, rawInt pos.col, .ref c1]).toList = ps.toList ++ [rawInt pos.line, rawInt pos.col, .ref c1] by simp] at h3
      rcases LamX.among_app _ tt h3 with z | z
      · obtain ⟨c3, e3, e4, g3⟩ := te p2 cv2 z
        refine ⟨c3, e3, other c3 _ ?_ e4, g3⟩
        rintro rfl
        rw [tP] at e4
        exact LamX.codeO_ne _ (Option.some.inj e4).symm
      · exact ⟨c1, z, upd_same, gc1⟩
    · have big : P < s.heap.objs.size := Heap.lt_size tobj
      rw [upd_ne (Nat.ne_of_gt lt), upd_ne (Nat.ne_of_gt (Nat.lt_of_lt_of_le big newer))]
      exact I.hok.fresh newer
/-- the context's code object and its table -/
structure CodeAt (Y : Dx) (c P : Addr) (q : Str) : Prop where
  tb : LamX.TabB Y.X.base Y.X.mg c P
  cd : Y.X.env.code = .ref c
  qn : Y.X.env.qual ++ "<lambda>" = q
def tLam (P : Addr) (q : Str) (sp : LamT → MH → (W → MH → Prop) → XD → Prop) (wd : Value → XF → SD → MH → Prop) (te : (Value → XF → SD → MH → Prop) → TEd) : TEd := fun σ M Q =>
  M P = some (.tbl q) ∧ sp (fun Q' E M' => te (fun cls fs _ M'' => E cls fs M'') σ M' Q') M Q (fun cls fs M' => wd cls fs σ M')
theorem q_lamW {wd : Value → XF → SD → MH → Prop} (hw : Y.wd = wd) (F : Fm g i k Y) {c P : Addr} {q : Str} (CA : CodeAt Y c P q) (j : Nat) {m : Nat} {x a : Str} {sp : LamT → MH → (W → MH → Prop) → XD → Prop} {params : Arguments} {body : Expr} {scope : Scope} {lpos p pos : Pos} {te : (Value → XF → SD → MH → Prop) → TEd}
    (D : LamFn g m kL x a sp) (L : LamX.LamS i.sc scope) (ok : LamOk iL i scope) (hbody : ∀ wd (YL : Dx), Fm g iL kL YL → YL.wd = wd → QE YL body (te wd)) (hdef : defaultsOf params Y.X.env = ([], []))
    (hbind : ∀ (q : Str) (cl : List (Str × Addr)) (pm cv ctv : Value), bindArgs (PySem.W.kla_fn "<lambda>" q params body scope cl pm cv ctv) ⟨[], []⟩ = pure [])
    (hm : m ≤ k := by first | exact Nat.le_refl _ | decide | omega) (hj : i.gls[j]? = some x := by rfl) (hh : i.hot = false := by rfl) (hdb : (a == ("__debug__" : Str)) = false := by decide) :
    QE Y (.Call (.Name x p) [.Lambda params body scope lpos] [] pos) (tLam P q sp wd te) := by
  subst hw
  obtain ⟨h1, h2, h3⟩ := F.glo j x hj
  obtain ⟨fw, fd, mgf, kp, hb, run⟩ := D.ex
  have qn := CA.qn
  subst qn
  rw [← F.hsc] at L
  refine ⟨fun s H σ M Q S h pins sh I => ?_⟩
  obtain ⟨hP, h⟩ := h
  refine wpAny_Call_Name_kw (ld_glob I h1 (by rw [F.hmg]; exact mgf) ?_ h2)
  refine PySem.W.callWith_K (h₀ := Y.X.base) I.ok.mod.kin (by rw [F.hK]; exact kp) ?_ (by rfl) (by rfl)
  obtain ⟨ps, t1, t2, t3⟩ := S.d _ _ hP
  show wpAny _ _ (spliced ((false, eval (.Lambda params body scope lpos) Y.X.env) :: backTo pos (starEach [] Y.X.env))) _ _ sh
  refine Calls.spliced_cons (lam_new (G := fun c => M c = none) I CA.tb CA.cd ⟨ps, t1, t2, t3⟩ (fun c e => S.d.free e) hdef (L.has I.ok) fun f c' pm' ctv H1 s' I1 keep T1 mc hc obj fn fr => ?_)
  have X1 : Ext H M H1 M := fun b o e m nt => ⟨keep b o (by rintro rfl; rw [t1] at e; exact nt _ (Option.some.inj e).symm) e, m⟩
  have d1 : Dok Y.X.K H1 M := by
    intro b o e
    by_cases hb : b = P
    · subst hb
      rw [hP] at e
      cases e
      exact T1
    · exact (S.d b o e).ext X1 fun u hu => keep b u hb hu
  have S1 := S.go X1 d1
  have act : Acts g Y.X.stack s' H1 M a f kL (fun Q E M' => te (fun cls fs _ M'' => E cls fs M'') σ M' Q) := acts_of (a := a) F I1 S1 L ok obj fn fr hc mc (hbind _ _ _ _ _) hbody hdb
  refine Calls.spliced_nil ⟨I1.kIn, ?_⟩
  have kin : g.K.In s'.heap := by rw [← F.hK]; exact I1.kIn
  have bd := hb s' [.ref f] kin rfl
  have e0 : Env0 g.P g.w g.K g.mg g.base Y.X.A Y.X.stack s' H1 := by rw [← F.hP, ← F.hw, ← F.hK, ← F.hmg, ← F.hb]; exact I1.env0
  have z := run (Q := up Y H M Q) (E := fun cls d H' => upX Y Y.wd cls d s H') F.gd (F.hd hh) (F.room.mono hm) e0 bd (by rw [← F.hK]; exact d1) act h
    (fun v H' w M' e d r q => ⟨w, M', X1.trans e, by rw [F.hK]; exact d, by rw [F.hK]; exact r, q⟩)
    (fun cls d H' fs M' e dk xf w => ⟨σ, M', fs, S1.go e (by rw [F.hK]; exact dk), by rw [F.hK]; exact xf, w⟩)
  rw [F.hP, F.hw]
  refine wpAny_call (codeAny_mono z fun res s2 hq => ?_)
  rw [← F.hP, ← F.hw] at hq
  cases res with
  | error e => exact passAt F.tk s pins H1 s' e s2 I1 hq
  | ok fl =>
    cases fl with
    | ret u => exact I1.after hq
    | next => exact (show False from hq).elim
    | brk => exact (show False from hq).elim
    | cont => exact (show False from hq).elim
end
end Dl
set_option Elab.async false
set_option linter.all false
set_option maxRecDepth 100000
/-! the law's own call, where the law makes lambdas -/
namespace Dl
open PySem PySem.Spec PyProof.Rows L2
def spLawT (P : Addr) (q : Str) : SpD := fun ws M Q _ => ∃ ns : List Int, ws = [.scr (ns.map PyData.int)] ∧ ns.length ≤ 63 ∧ M P = some (.tbl q) ∧ ∀ M', Q (.d (.bool true)) M'
theorem spLawT_len {P : Addr} {q : Str} : ∀ ws M Q E, spLawT P q ws M Q E → ws.length = 1 := by rintro _ _ _ _ ⟨ns, rfl, _⟩; rfl
/-- from a heap in which the script, if at all, and the law's table are tracked -/
theorem law_fromT {P : Program} {w : World} {K : PySem.W.Frag} {mg mb : Str → Option Value} {k : Nat} {fa a c T : Addr} {nm : Str} {fd : FuncData} {x : Str} {t : Shared} {vs : List Value} {ns : List Int}
    (F : ∀ base : Heap, K.In base → base.Ns mainGlobals mg → SysOk base → LamX.TabB base mg c T → FnG ⟨P, w, K, mg, base⟩ k fa fd [x] (spLawT T nm)) (hb : ∀ (s : Shared) (u : Value), BindsTo s fd ⟨[u], []⟩ [(x, u)]) (hr : Room k callerA)
    (KX : K.In t.heap) (hg : t.heap.Ns mainGlobals mg) (hbl : t.heap.Ns builtinsNs mb) (hbb : ∀ x : Str, x ≠ "__name__" → mb x = bootBuiltins x) (hlim : t.heap.NoLimit) (hsys : ∃ mm, t.heap.Ns sysModules mm) (hgen : t.gens = #[])
    (hmod : ∃ (bm : Addr) (ob : Obj), mg "__builtins__" = some (.ref bm) ∧ bm ≠ builtinsNs ∧ t.heap.get? bm = some ob ∧ ob.cls = .type "module" ∧ ob.dict = some builtinsNs ∧ ob.data = .plain)
    (ha : t.heap.get? a = some { cls := .type "list", data := .seq vs.toArray }) (hl : ns.length ≤ 63) (hT : t.heap.get? T = some { cls := .none, data := .fields #[] }) (nT : K.lookup T = none) (hC : PySem.W.CodeHd t.heap c T)
    (H : Hp) (hS : FS K H (fun b => if b = T then some (.tbl nm) else none) a (ns.map V.int)) (hH : H T = some (.tbl #[])) (hok : HOk P w H t.heap) (only : ∀ b u, H b = some u → (b = a ∧ ∃ o xs, u = .frz o (.lst xs)) ∨ b = T) (apart : H a ≠ none → K.lookup a = none) :
    codeAny (model P w) callerA (.call (.ref fa) ⟨[.ref a], []⟩) (fun r s' => r = .ok (.ret (.bool true)) ∧ OldK t.heap s'.heap ∧ s'.os = t.os ∧ AllBare s'.gens) t := by
  have stays : ∀ {b o}, t.heap.get? b = some o → H b = none → (hidT t.heap H).get? b = some o := fun e n => hidT_get e n
  -- what is neither a list nor an empty table is not tracked
  have out : ∀ {b o}, t.heap.get? b = some o → (∀ vs n, o.data ≠ .seq vs n) → o.data ≠ .fields #[] → H b = none := by
    intro b o e h1 h2
    cases q : H b with
    | none => rfl
    | some u =>
      rcases only b u q with ⟨hba, _⟩ | hba
      · subst hba
        rw [ha] at e
        cases e
        exact absurd rfl (h1 _ _)
      · subst hba
        rw [hT] at e
        cases e
        exact absurd rfl h2
  have outD : ∀ {b o es n}, t.heap.get? b = some o → o.data = .dict es n → H b = none := fun e d => out e (fun vs n z => by rw [d] at z; cases z) (fun z => by rw [d] at z; cases z)
  have nsStays : ∀ b m, t.heap.Ns b m → (hidT t.heap H).Ns b m := fun b m ⟨o, es, ep, e, d, r⟩ => ⟨o, es, ep, stays e (outD e d), d, r⟩
  have inBase : K.In (hidT t.heap H) := fun b o e => stays (KX b o e) (by
    cases q : H b with
    | none => rfl
    | some u =>
      rcases only b u q with ⟨hba, _⟩ | hba
      · subst hba
        rw [apart (by rw [q]; exact fun z => by cases z)] at e
        cases e
      · subst hba
        rw [nT] at e
        cases e)
  have hm : Mod K mg (hidT t.heap H) := ⟨inBase, nsStays _ _ hg, ⟨mb, nsStays _ _ hbl, hbb⟩, by
    obtain ⟨mc, z1, z2⟩ := hlim
    exact ⟨mc, nsStays _ _ z1, z2⟩⟩
  have hsy : SysOk (hidT t.heap H) := by
    obtain ⟨mm, z⟩ := hsys
    obtain ⟨o, es, ep, e, d, _⟩ := nsStays _ _ z
    exact ⟨o, es, ep, e, d⟩
  have tb : LamX.TabB (hidT t.heap H) mg c T := by
    refine ⟨?_, ?_, ?_⟩
    · obtain ⟨o, us, file, tf, flags, tg, inF, text, tt, e1, e2, e3, e4, r⟩ := hC
      refine ⟨o, us, file, tf, flags, tg, inF, text, tt, stays e1 (out e1 (fun vs n z => by rw [e3] at z; cases z) fun z => ?_), e2, e3, e4, r⟩
      rw [e3] at z
      cases z
      simp at e4
    · obtain ⟨bm, ob, b1, b2, b3, b4, b5, b6⟩ := hmod
      refine ⟨bm, ob, b1, b2, ?_, ?_, stays b3 (out b3 (fun vs n z => by rw [b6] at z; cases z) fun z => by rw [b6] at z; cases z), b4, b5, b6⟩
      · rintro rfl
        obtain ⟨o, es, ep, e, d, _⟩ := hg
        rw [b3] at e
        cases e
        rw [b6] at d
        cases d
      · rintro rfl
        rw [b3] at hT
        cases hT
        cases b6
    · intro z
      obtain ⟨o, es, ep, e, d, _⟩ := hg
      rw [z, hT] at e
      cases e
      cases d
  have env : Env0 P w K mg (hidT t.heap H) callerA [] t H := by
    refine ⟨rfl, hm, fun b o e => of_hidT e, Nat.le_of_eq (hidT_size _ _), trivial, ?_, hok, AllBare.of_eq hgen⟩
    intro b hb
    have : b ∈ ([] : List Addr) := hb
    cases this
  have lifted : lift K (spLawT T nm) [.ref a] H (fun v _ => v = .bl true) (fun _ _ _ => False) := by
    refine ⟨[.scr (ns.map PyData.int)], fun b => if b = T then some (.tbl nm) else none, fun u _ => u = .d (.bool true), fun _ _ _ => False, ?_, .cons ⟨a, _, rfl, hS, fza_ints ns⟩ .nil, ⟨ns, rfl, hl, if_pos rfl, fun _ => rfl⟩, ?_, fun _ _ _ _ _ _ _ _ z => z⟩
    · intro b o e
      have e : (if b = T then some (O.tbl nm) else none) = some o := e
      by_cases hbT : b = T
      · rw [if_pos hbT] at e
        cases e
        subst hbT
        refine ⟨#[], hH, trivial, fun pos cv z => ?_⟩
        simp [codeAmong] at z
      · rw [if_neg hbT] at e
        cases e
    · intro v H' u M' _ _ r e
      subst e
      exact r.bool
  have run := (F _ inBase (nsStays _ _ hg) hsy tb).run callerA [] t H ⟨[.ref a], []⟩ [.ref a] [.ref a] _ _ rfl (fun _ => hr.hd) ⟨hr.dp, hr.un⟩ env (hb t (.ref a)) (.cons rfl .nil) lifted
  refine codeAny_mono run fun r s' h => ?_
  cases r with
  | error e => exact (cx_false (show L2.CX P w [] H t _ e s' from h)).elim
  | ok fl =>
    cases fl with
    | ret u =>
      obtain ⟨v, H', os, bare, un, hok', rv, hv⟩ := h
      obtain rfl : v = .bl true := hv
      obtain rfl : u = Value.bool true := rv
      obtain ⟨more, grown⟩ := un.tbls T #[] hH
      have gT : s'.heap.get? T = some { cls := .none, data := .fields (#[] ++ more) } := hok' T _ grown
      have rest : ∀ b o, b ≠ T → t.heap.get? b = some o → s'.heap.get? b = some o := by
        intro b o nb e
        cases q : H b with
        | none =>
          refine un.keep b o e q (fun z => ?_) (by simp)
          have : b ∈ ([] : List Addr) := z
          cases this
        | some u' =>
          rcases only b u' q with ⟨_, ob, xs, hu'⟩ | z
          · rw [hu'] at q
            have e1 := (hok b _ q).1
            have e2 := (hok' b _ (un.frzs b ob _ q)).1
            rw [e] at e1
            rw [e2, ← e1]
          · exact absurd z nb
      refine ⟨rfl, ⟨fun b o e => ?_, fun b o e => ?_⟩, os, bare⟩
      · by_cases hbT : b = T
        · subst hbT
          rw [hT] at e
          cases e
          exact .inr (.inl ⟨(hC.tab hT).isCodeTable, rfl, #[], more, rfl, gT⟩)
        · exact .inl (rest b o hbT e)
      · by_cases hbT : b = T
        · subst hbT
          exact ⟨_, gT⟩
        · exact ⟨o, rest b o hbT e⟩
    | next => exact (show False from h).elim
    | brk => exact (show False from h).elim
    | cont => exact (show False from h).elim
theorem law_walkT {l : PySem.W.OpenLaw} {k : Nat} {q : Program} {loose : List Str} {XP : (Str → Option Value) → Heap → Prop} {YP : World → Heap → Prop} {d : DefRec} {K : Params → PySem.W.Frag} {x : Str}
    (hn : l.most = some 63) (hdf : d.params.defaults = []) (hr : Room k callerA) (hq : importsNone q = true) (hrec : ((recsOf q).find? fun e => e.name == d.name).isSome = true) (hY : ∀ (w : World) (h : Heap), YP w h → (K w.params).In h)
    (F : ∀ (w : World) (mg : Str → Option Value) (fa : Addr) (h : Heap), (K w.params).In h → h.Ns mainGlobals mg → mg d.name = some (.ref fa) →
      ∃ (fd : FuncData) (c T : Addr) (nm : Str), PySem.W.tabIn (K w.params) d.name = some (c, T) ∧ (K w.params).lookup T = none ∧ (∀ (s : Shared) (u : Value), BindsTo s fd ⟨[u], []⟩ [(x, u)]) ∧
        ∀ base : Heap, (K w.params).In base → base.Ns mainGlobals mg → SysOk base → LamX.TabB base mg c T → FnG ⟨l.prog, w, K w.params, mg, base⟩ k fa fd [x] (spLawT T nm)) :
    PySem.W.WalkO q loose XP YP l.row.toRowW d [] (fun f vs => PySem.call f vs) := by
  refine Att.attach_call hn hdf ?_
  intro w s₀ t mg mb fa o pm cd doc a vs ns G YY ho hd hcd hmg hobj hints hlen hgen
  have KX := hY w _ YY
  obtain ⟨fd, c, T, nm, htab, nT, hb, hF⟩ := F w mg fa _ KX G.T.g hmg
  obtain ⟨dr, hdr⟩ := Option.isSome_iff_exists.mp hrec
  obtain ⟨hC, hT⟩ := PySem.W.tab_of G.T KX hdr htab
  have rv := vals_ints hints
  have hsys : ∃ mm, t.heap.Ns sysModules mm := by
    have z := G.T.seer hq
    obtain ⟨mm, z1, _⟩ := z.mods
    exact ⟨mm, z1⟩
  have lenV : vs.length = ns.length := by rw [← rv.length, List.length_map]
  have few : ns.length ≤ sizeLine := by rw [sizeLine_eq]; omega
  have aT : a ≠ T := by
    rintro rfl
    rw [hobj] at hT
    cases hT
  have core := fun H => law_fromT (mb := mb) (vs := vs) (ns := ns) (a := a) hF hb hr KX G.T.g G.T.b G.T.builtins G.T.nolimit hsys hgen G.T.bmain hobj hlen hT nT hC H
  have okT : ∀ (P' : Program) (H : Hp), H T = some (.tbl #[]) → ObjOk P' w H t.heap T (.tbl #[]) := fun P' H _ => hT
  cases hk : (K w.params).lookup a with
  | some ob =>
    have e := KX a ob hk
    rw [hobj] at e
    cases e
    refine core (fun b => if b = T then some (.tbl #[]) else none) (Or.inr (Or.inr ⟨_, vs.toArray, _, hk, rfl, rfl, rfl, ?_, ?_⟩)) (if_pos rfl) ?_ ?_ ?_
    · rw [List.size_toArray, lenV]; exact few
    · simpa using rv
    · intro b u z
      have z : (if b = T then some (HO.tbl #[]) else none) = some u := z
      by_cases e : b = T
      · rw [if_pos e] at z
        cases z
        subst e
        exact hT
      · rw [if_neg e] at z
        cases z
    · intro b u z
      have z : (if b = T then some (HO.tbl #[]) else none) = some u := z
      by_cases e : b = T
      · exact .inr e
      · rw [if_neg e] at z
        cases z
    · intro z
      exact absurd (if_neg aT) z
  | none =>
    refine core (fun b => if b = a then some (.frz { cls := .type "list", data := .seq vs.toArray } (.lst (ns.map V.int))) else if b = T then some (.tbl #[]) else none) (Or.inl ⟨Or.inr ⟨_, if_pos rfl⟩, if_neg aT⟩) ((if_neg aT.symm).trans (if_pos rfl)) ?_ ?_ (fun _ => hk)
    · intro b u z
      have z : (if b = a then some (HO.frz { cls := .type "list", data := .seq vs.toArray } (.lst (ns.map V.int))) else if b = T then some (HO.tbl #[]) else none) = some u := z
      by_cases e : b = a
      · subst e
        rw [if_pos rfl] at z
        cases z
        exact ⟨hobj, ⟨by rw [List.length_map]; exact few, vs, _, rv, hobj⟩⟩
      · rw [if_neg e] at z
        by_cases e2 : b = T
        · rw [if_pos e2] at z
          cases z
          subst e2
          exact hT
        · rw [if_neg e2] at z
          cases z
    · intro b u z
      have z : (if b = a then some (HO.frz { cls := .type "list", data := .seq vs.toArray } (.lst (ns.map V.int))) else if b = T then some (HO.tbl #[]) else none) = some u := z
      by_cases e : b = a
      · rw [if_pos e] at z
        cases z
        exact .inl ⟨e, _, _, rfl⟩
      · rw [if_neg e] at z
        by_cases e2 : b = T
        · exact .inr e2
        · rw [if_neg e2] at z
          cases z
end Dl
namespace Dl
open PySem PySem.Spec PyProof.Rows L2
theorem tab_mk {K : PySem.W.Frag} {x : Str} {f c P : Addr} {o1 o2 : Value} {d1 d2 : Option Addr} {s1 s2 : Array (Option Value)} {fd : FuncData} {vs : Array Value} (a : PySem.W.nsIn K mainGlobals x = some (some (.ref f))) (l : K.lookup f = some ⟨o1, d1, .func fd, s1⟩) (e : fd.code = .ref c) (l2 : K.lookup c = some ⟨o2, d2, .fields vs, s2⟩) (v : vs[11]? = some (.ref P)) :
    PySem.W.tabIn K x = some (c, P) := by
  simp only [PySem.W.tabIn, a, l, e, l2, v]
/-- a def that makes lambdas: its code object and that one's table are known -/
theorem fng_tab {g : Gc} {i : Si} {k : Nat} {x qual : Str} {st : Stmt} {f : Addr} {fd : FuncData} {ps : List Str} {sp : SpD} {c P : Addr} {nm : Str} (F : Fun g.K x qual st f fd) (Sc : FnScope i.N ps (defScope st)) (ok : ScOk i (defScope st)) (hsy : SysOk g.base)
    (tb : LamX.TabB g.base g.mg c P) (hcd : fd.code = .ref c) (hq : (qual ++ ".<locals>.") ++ "<lambda>" = nm) (len : ∀ ws M Q E, sp ws M Q E → ws.length = ps.length)
    (body : ∀ (Y : Dx) (ws : List W) (M : MH) (Q : W → MH → Prop) (E : XD), Fm g i k Y → Y.wd = (fun cls fs _ M' => E cls fs M') → CodeAt Y c P nm → sp ws M Q E → ∃ t, QSs Y (defBody st) t ∧ t { nx := fun _ M' => Q (.d .none) M', rt := Q } (startD i.N ws) M) :
    FnG g (k + 1) f fd ps sp i.hot := by
  refine ⟨len, fun A outer s H args us vs Q E hgd hh hr e0 hb rv hlift => ?_⟩
  obtain ⟨ws, M, Qd, Ed, hD, hw, hsp, kQ, kE⟩ := hlift
  refine fng_at F Sc ok hsy hgd hh hr e0 hb rv hD hw (len _ _ _ _ hsp) kQ kE fun Y F' hw' _ hc hn => body Y ws M Qd Ed F' hw' ⟨?_, hc.trans hcd, by rw [hn]; exact hq⟩ hsp
  rw [F'.hb, F'.hmg]
  exact tb
end Dl
set_option Elab.async false
set_option linter.all false
set_option maxRecDepth 100000
/-! isinstance of a caught exception and a tuple of classes -/
namespace L2
open PySem PySem.Spec PyProof.Rows
def rIsXT (K : PySem.W.Frag) : List V → Hp → VK → Prop := fun xs H Q => ∃ (a D tp : Addr) (cs : List V) (cvs : List Value) (b : Bool), xs = [.ref a, .ref tp] ∧ H a = some (Dl.ExL (.ref D) none a) ∧ ExcC K D ∧ H tp = some (.tup cs) ∧ Paired ClsV cs cvs ∧ PySem.W.kitAny K (.ref D) cvs = some b ∧ Q (.bl b) H
theorem call_isXT {X : Cx} : CallR X (.builtin "isinstance") (rIsXT X.K) := by
  intro pins s σ H xs us Q I r h
  obtain ⟨a, D, tp, cs, cvs, b, rfl, ha, C, ht, k, e, q⟩ := h
  obtain ⟨u1, u2, rfl, r1, r2⟩ := vals2 r
  cases (show u1 = Value.ref a from r1)
  cases (show u2 = Value.ref tp from r2)
  obtain ⟨⟨oe, vs, hget, hz, hv⟩, _⟩ := I.hok a _ ha
  have J : PySem.W.InstAt s.heap a oe D none := by
    obtain ⟨oc, od, oda, osl⟩ := oe
    obtain ⟨h1, h2⟩ := hz
    dsimp only at h1 h2 hv
    subst h1 h2 hv
    exact ⟨hget, rfl, rfl, trivial⟩
  obtain ⟨_, its, rv, ot, g1, g2, n, g3⟩ := (show ObjOk X.prog X.w H s.heap tp (.tup cs) from I.hok tp _ ht)
  have ei := ClsV.all k rv
  subst ei
  obtain ⟨tc, td, tdat, tsl⟩ := ot
  dsimp only at g2 g3
  subst g2 g3
  exact PySem.W.kia_tup (PySem.W.handS_kitx_exc C.hg C.hk C.hs C.hd C.ha C.hn C.ht C.hm) I.kIn J g1 e (fun z => nomatch z) fun tk => ⟨.bl b, H, I.tok tk, rfl, q⟩
end L2
namespace Dl
open PySem PySem.Spec PyProof.Rows L2
/-- names of classes, as the text writes them -/
inductive NmsE (i : Si) : List Expr → List Str → Prop
  | nil : NmsE i [] []
  | cons {y : Str} {p : Pos} {es : List Expr} {ys : List Str} (j : Nat) (hj : i.gls[j]? = some y) : NmsE i es ys → NmsE i (.Name y p :: es) (y :: ys)
theorem isAll_get {g : Gc} {cls : Value} {y : Str} {b : Bool} : ∀ {l : List (Str × Bool)}, isAll g cls l → (y, b) ∈ l → IsB g cls y b
  | [], _, h => by cases h
  | (z, c) :: r, h, m => by
    rcases List.mem_cons.mp m with e | m
    · cases e; exact h.1
    · exact isAll_get h.2 m
theorem isAll_sub {g : Gc} {cls : Value} {l : List (Str × Bool)} (h : isAll g cls l) : ∀ {l' : List (Str × Bool)}, (∀ p ∈ l', p ∈ l) → isAll g cls l'
  | [], _ => trivial
  | (y, b) :: r, m => ⟨isAll_get h (m _ List.mem_cons_self), isAll_sub h fun p hp => m p (List.mem_cons_of_mem _ hp)⟩
section
variable {g : Gc} {i : Si} {k : Nat} {Y : Dx}
/-- the classes told, as values -/
theorem cls_vals (F : Fm g i k Y) {D : Addr} {es : List Expr} {ys : List Str} (N : NmsE i es ys) : ∀ {bs : List Bool}, bs.length = ys.length → isAll g (.ref D) (ys.zip bs) → ∃ (cs : List V) (cvs : List Value), Paired ClsV cs cvs ∧ PySem.W.kitAny g.K (.ref D) cvs = some (bs.any id) ∧ cs.length = ys.length ∧
    ∀ {s : L2.St} {H : Hp} {R : List V → Hp → Prop}, R cs H → semA Y.X es s H R := by
  induction N with
  | nil =>
    intro bs hl _
    cases bs with
    | nil => exact ⟨[], [], .nil, rfl, rfl, fun h => semA_of pa_nil h⟩
    | cons b bs => cases hl
  | @cons y p es ys j hj N ih =>
    intro bs hl h
    match bs, hl, h with
    | b :: bs, hl, h =>
      obtain ⟨⟨D', cv, eD, xc, hcv, hk⟩, h2⟩ := h
      cases eD
      obtain ⟨cs, cvs, h3, h4, h5, h6⟩ := ih (bs := bs) (by simpa using hl) h2
      obtain ⟨k1, k2, k3⟩ := F.glo j y hj
      have any : PySem.W.kitAny g.K (.ref D) (cv :: cvs) = some ((b :: bs).any id) := by
        unfold PySem.W.kitAny
        rw [hk]
        cases b with
        | true => rfl
        | false => exact h4
      rcases hcv with ⟨m1, C, rfl⟩ | ⟨m0, n, mb, rfl⟩
      · refine ⟨.ref C :: cs, .ref C :: cvs, .cons (.own C) h3, any, by simp [h5], fun {s H R} q => ?_⟩
        exact semA_of (pa_cons (pe_glob (v := .ref C) (u := .ref C) k1 (by rw [F.hmg]; exact m1) rfl k2) pa_sem) (h6 q)
      · refine ⟨.ty n :: cs, .type n :: cvs, .cons (.ty n) h3, any, by simp [h5], fun {s H R} q => ?_⟩
        exact semA_of (pa_cons (pe_bltn (v := .ty n) (u := .type n) k1 (by rw [F.hmg]; exact m0) mb rfl k3 k2) pa_sem) (h6 q)
def tIsxT (g : Gc) (ys : List Str) (te : TEd) : TEd := fun σ M Q => te σ M fun w M1 => ∃ p cls bs, w = .ref p ∧ M1 p = some (.exc cls none) ∧ bs.length = ys.length ∧ ys.length ≤ 1000 ∧ (∃ D, cls = .ref D ∧ ExcC g.K D) ∧ isAll g cls (ys.zip bs) ∧ Q (.d (.bool (bs.any id))) M1
theorem q_isxT (F : Fm g i k Y) (j : Nat) {e : Expr} {es : List Expr} {ys : List Str} {kk : Nat} {te : TEd} {p tpos pos : Pos} (hm : g.mg "isinstance" = none) (N : NmsE i es ys) (he : QE Y e te)
    (hj : i.gls[j]? = some "isinstance" := by rfl)
    (hse : starEach [e, .Tuple es kk tpos] Y.X.env = (false, eval e Y.X.env) :: starEach [.Tuple es kk tpos] Y.X.env := by rfl) (hpl : (backTo pos (starEach [.Tuple es kk tpos] Y.X.env)).any (·.1) = false := by rfl) : QE Y (.Call (.Name "isinstance" p) [e, .Tuple es kk tpos] [] pos) (tIsxT g ys te) := by
  obtain ⟨h1, h2, h3⟩ := F.glo j _ hj
  refine ⟨fun s H σ M Q S h => ?_⟩
  refine semE_of (pe_callB call_isXT h1 (by rw [F.hmg]; exact hm) boot_isinstance (pa_cons (pe_sem (e := e)) (pa_cons (pe_tup (es := es) pa_sem) pa_nil) hse) h3 h2 hse hpl) (he.then_ S h fun v H1 w M1 e1 d r q => ?_)
  obtain ⟨a, cls, bs, rfl, ha, hl, few, ⟨D, rfl, xc⟩, hall, q⟩ := q
  obtain ⟨cs, cvs, c1, c2, c3, c4⟩ := cls_vals F N hl hall
  obtain ⟨dd, hH, hx⟩ := d _ _ ha
  have ed : dd = none := by
    cases dd with
    | none => rfl
    | some _ => exact hx.elim
  subst ed
  refine c4 ⟨by rw [c3, sizeLine_eq]; omega, fun t nt => ?_⟩
  have mt := d.free nt
  have X2 : Ext H1 M1 (upd H1 t (.tup cs)) M1 := ext_new nt mt
  have hne : a ≠ t := by rintro rfl; rw [hH] at nt; cases nt
  refine ⟨a, D, t, cs, cvs, _, by rw [show v = .ref a from r], by rw [upd_ne hne]; exact hH, by rw [F.hK]; exact xc, upd_same, c1, by rw [F.hK]; exact c2, ?_⟩
  exact (((S.go e1 d).go X2 (dok_new d nt)).here (wBool _) q).trans (e1.trans X2)
end
end Dl
set_option Elab.async false
set_option linter.all false
set_option maxRecDepth 100000
/-! t.index(x) of a tuple of texts -/
namespace Dl
open PySem PySem.Spec PyProof.Rows L2
section
variable {g : Gc} {i : Si} {k : Nat} {Y : Dx}
/-- a tuple's object, and that it has no dict of its own -/
theorem tup_plain {pins : List (Addr × Obj)} {σ : L2.St} {H : Hp} {M : MH} {sh : Shared} {X : Cx} (I : Inv X pins σ H sh) {a : Addr} {xs : List V} (h : FT X.K H M a xs) : sh.TypeIs (.ref a) "tuple" ∧ ∀ b, Value.ref a = .ref b → ∃ ob, sh.heap.get? b = some ob ∧ ob.dict = none := by
  rcases h with ⟨⟨o, h, hc, hd⟩, _⟩ | ⟨o, its, n, hk, hc, hd, _⟩
  · have e := (I.hok a _ h).1
    exact ⟨⟨o, e, hc⟩, fun b q => by cases q; exact ⟨o, e, hd⟩⟩
  · have e := I.kIn a o hk
    exact ⟨⟨o, e, hc⟩, fun b q => by cases q; exact ⟨o, e, hd⟩⟩
def anyTup : W → Prop := fun w => ∃ ds, w = .d (.tuple ds)
def tIdxW (to : TEd) (ta : TAd) : TEd := fun σ M Q => to σ M fun w M1 => anyTup w ∧ ta σ M1 fun us M2 => ∃ (ys : List Str) (z : Str) (j : Nat), w = .d (.tuple (ys.map PyData.str)) ∧ us = [.d (.str z)] ∧ ys[j]? = some z ∧ (∀ m, m < j → ys[m]? ≠ some z) ∧ Q (.d (.int (j : Nat))) M2
theorem q_indexT {o e : Expr} {es : List Expr} {to : TEd} {t : TAd} {apos cpos : Pos} (ho : QE Y o to) (ha : QA Y (e :: es) t)
    (hbase : attributeBase o "index" Y.X.env (eval o Y.X.env) = eval o Y.X.env := by rfl)
    (hfew : ((backTo cpos (starEach (e :: es) Y.X.env)).all (fun x => !x.1) && (backToKw cpos (keywordEach [] Y.X.env)).all (fun x => x.1.isSome) && decide ((e :: es).length + ([] : List Keyword).length + (if ([] : List Keyword).isEmpty then 0 else 1) < 30)) = true := by rfl)
    (hline : (apos.endLine == cpos.line) = true := by rfl) (hs : starEach (e :: es) Y.X.env = (false, eval e Y.X.env) :: starEach es Y.X.env := by rfl) (hp : (backTo cpos (starEach es Y.X.env)).any (·.1) = false := by rfl) :
    QE Y (.Call (.Attribute o "index" apos) (e :: es) [] cpos) (tIdxW to t) := by
  refine ⟨fun s H σ M Q S h pins sh I => ?_⟩
  refine wpAny_Call_method_late hbase hfew hline rfl (thn (ho.run s H σ M _ S h pins sh I) fun v s1 ⟨x, H1, I1, r1, w, M1, e1, d1, rw1, ⟨ds, ew⟩, q1⟩ => ?_)
  subst ew
  obtain ⟨a, xs, rfl, h3, h4⟩ := rw1.tup
  obtain rfl : v = .ref a := r1
  obtain ⟨t1, t2⟩ := tup_plain I1 h3
  refine ⟨_, _, PySem.F.plainAttrs_tuple, PySem.F.slot_tuple_index, PySem.F.type_tuple_index, t1, t2, ?_⟩
  have z := ha.run s H1 σ M1 _ (S.go e1 d1) q1 cpos pins s1 I1
  rw [hs] at z ⊢
  refine Calls.callWith_builtin (by show (false || (backTo cpos (starEach es Y.X.env)).any (·.1)) = false; rw [hp] <;> rfl) (Calls.evalArgs_plain ?_)
  refine thn z fun us s2 ⟨vs, H2, I2, r2, ws, M2, e2, d2, r3, q2⟩ => ?_
  obtain ⟨ys, c, j, ew, rfl, hy, hno, q⟩ := q2
  cases ew
  obtain ⟨u, rfl, ru⟩ := r3.one
  have e := fz_strs h4
  subst e
  cases ru
  refine mt_tup_index pins s2 s H2 (.ref a) _ (.ref a) us _ I2 rfl r2 ⟨a, ys, c, j, rfl, rfl, (h3.ext e2).sq, hy, hno, ?_⟩
  exact (((S.go e1 d1).go e2 d2).here (wInt _) q).trans (e1.trans e2)
end
end Dl
set_option Elab.async false
set_option linter.all false
set_option maxRecDepth 100000
/-! a comprehension whose test draws -/
namespace Dl
open PySem PySem.Spec PyProof.Rows L2
theorem lcPick {ds0 : List PyData} {kc : MH → Prop} {M1 : MH} {σ : SD} {vs : List Nat} {jt : Nat} {tt : TTd} {te : TEd} {R0 : List PyData → MH → Prop} (p : Addr) (n c : Nat) (hz : ds0.length ≤ 16000000) (hkc : ∀ M, kc M) (hp : Pot p n M1)
    (he : ∀ (j : Nat) d, ds0[j]? = some d → ∀ M2, Pot p (n + c * j) M2 → Oth p M1 M2 → ∀ R : Bool → MH → Prop, (∀ b M3, Pot p (n + c * j + c) M3 → Oth p M2 M3 → R b M3) → tt ((wipeD σ vs).set jt (some (.d d))) M2 R)
    (hv : ∀ d ∈ ds0, ∀ M2, ∀ R : W → MH → Prop, R (.d d) M2 → te ((wipeD σ vs).set jt (some (.d d))) M2 R)
    (q : ∀ ds M3, ds.Sublist ds0 → Pot p (n + c * ds0.length) M3 → Oth p M1 M3 → R0 ds M3) :
    ∀ D, M1 D = none → ∃ I : Nat → List W → MH → Prop, I 0 [] (mset M1 D (.lst [])) ∧ (∀ j acc M2, I j acc M2 → kc M2 ∧ M2 D = some (.lst acc)) ∧
      (∀ j w acc M2, (ds0.map W.d)[j]? = some w → I j acc M2 → tgQ (.one jt) w (wipeD σ vs) fun σ2 => tt σ2 M2 fun b M4 => if b = true then te σ2 M4 fun x M5 => M5 D = some (.lst acc) ∧ acc.length < sizeLine ∧ I (j + 1) (acc ++ [x]) (mset M5 D (.lst (acc ++ [x]))) else I (j + 1) acc M4) ∧
      (∀ acc M2, I (ds0.map W.d).length acc M2 → dataQ R0 acc (mdel M2 D)) := by
  intro D nD
  have pD := hp.ne nD
  have sz := sizeLine_eq
  have dn : ∀ {b : Addr} {o : O}, M1 b = some o → b ≠ D := fun e z => by subst z; rw [nD] at e; cases e
  refine ⟨fun j acc M2 => M2 D = some (.lst acc) ∧ Pot p (n + c * j) M2 ∧ Oth p M1 M2 ∧ ∃ ds : List PyData, acc = ds.map W.d ∧ ds.Sublist (ds0.take j), ?_, ?_, ?_, ?_⟩
  · exact ⟨mset_same, (hp.mono (by omega)).of (mset_ne pD), fun b o nb e => by rw [mset_ne (dn e)]; exact e, [], rfl, by simp⟩
  · rintro j acc M2 ⟨h, _⟩
    exact ⟨hkc _, h⟩
  · rintro j w acc M2 hj ⟨hD, hpj, ho, ds, rfl, hs⟩
    obtain ⟨d, hd, rfl⟩ : ∃ d, ds0[j]? = some d ∧ w = .d d := by
      rw [List.getElem?_map] at hj
      cases e : ds0[j]? with
      | none => rw [e] at hj; cases hj
      | some d => rw [e] at hj; cases hj; exact ⟨d, rfl, rfl⟩
    have hlt := (List.getElem?_eq_some_iff.mp hd).1
    have tk := getElem?_take_succ hd
    have len : ds.length ≤ j := Nat.le_trans hs.length_le (by rw [List.length_take]; omega)
    refine he j d hd M2 hpj ho _ fun b M3 pp oo => ?_
    have pp' : Pot p (n + c * (j + 1)) M3 := pp.mono (by rw [Nat.mul_add]; omega)
    have hD3 := oo D _ (fun e => pD e.symm) hD
    have ho3 := ho.trans oo
    cases b with
    | false => exact (if_neg Bool.false_ne_true) ▸ ⟨hD3, pp', ho3, ds, rfl, by rw [tk]; exact hs.trans (List.sublist_append_left _ _)⟩
    | true =>
      rw [if_pos rfl]
      refine hv d (List.mem_of_getElem? hd) M3 _ ⟨hD3, by rw [List.length_map]; omega, mset_same, pp'.of (mset_ne pD), fun b o nb e => ?_, ds ++ [d], by simp, by rw [tk]; exact hs.append (List.Sublist.refl _)⟩
      rw [mset_ne (dn e)]
      exact ho3 b o nb e
  · rintro acc M2 ⟨hD, hpj, ho, ds, rfl, hs⟩
    rw [List.length_map] at hpj hs
    refine dataQ_of (q ds _ (by simpa using hs) (hpj.of (mdel_ne pD)) fun b o nb e => ?_)
    rw [mdel_ne (dn e)]
    exact ho b o nb e
end Dl
set_option Elab.async false
set_option linter.all false
set_option maxRecDepth 100000
/-! int(text); a split text that changes -/
namespace Dl
open PySem PySem.Spec PyProof.Rows L2
section
variable {g : Gc} {i : Si} {k : Nat} {Y : Dx}
/-- int(x) of a number, a truth or a text that is a number -/
def rIntX : RCd := fun ws M Q => match ws with
  | [.d (.int n)] => Q (.d (.int n)) M
  | [.d (.bool b)] => Q (.d (.int (if b then 1 else 0))) M
  | [.d (.str a)] => ∃ n, PySem.intText? a = some n ∧ a.length ≤ 640 ∧ Q (.d (.int n)) M
  | _ => False
theorem c_intX : OpC Y (.type "int") rIntX := by
  intro s H σ M xs ws Q S rx q
  unfold rIntX at q
  split at q
  · exact c_int s H σ M xs _ Q S rx q
  · exact c_int s H σ M xs _ Q S rx q
  · obtain ⟨v, rfl, r⟩ := rx.one
    obtain ⟨n, h1, h2, q⟩ := q
    exact semC_of call_int_str ⟨_, n, by rw [r.str], h1, h2, S.here (wInt _) q⟩
  · exact q.elim
/-- x.split(sep), a new list that changes -/
def rSplitM : RMd := fun w us M Q => match w, us with
  | .d (.str a), [.d (.str b)] => (b.length == 0) = false ∧ a.length + 2 ≤ sizeLine ∧ ∀ p, M p = none → Q (.ref p) (mset M p (.lst (((Txt.split a b).map PyData.str).map W.d)))
  | _, _ => False
theorem m_splitM : MetD Y "str" "str.split" "split" tyStrD rSplitM := by
  refine ⟨_, PySem.F.plainAttrs_str, PySem.F.slot_str_split, PySem.F.type_str_split, mt_split, fun S r h => ?_, ?_⟩
  · obtain ⟨z, rfl⟩ := h
    cases r
    rfl
  · intro s H σ M x w vs ws Q R S r rs q k
    unfold rSplitM at q
    split at q
    · obtain ⟨h1, h2, q⟩ := q
      obtain ⟨v, rfl, rv⟩ := rs.one
      cases r
      cases rv
      exact ⟨_, _, rfl, rfl, h1, h2, fun p n => k _ _ (up_mut S n (fz_of_strs _).wv (q p (S.d.free n)))⟩
    · exact q.elim
end
end Dl
set_option Elab.async false
set_option linter.all false
set_option maxRecDepth 100000
/-! more than one def that makes lambdas: the law's call with a table for each -/
namespace Dl
open PySem PySem.Spec PyProof.Rows L2
/-- the tables stand, each with its name -/
def TsOk (Ts : List (Addr × Str)) (M : MH) : Prop := ∀ e ∈ Ts, M e.1 = some (.tbl e.2)
theorem TsOk.keep {Ts : List (Addr × Str)} {M M' : MH} (h : TsOk Ts M) (k : Keep M M') : TsOk Ts M' := fun e he => k _ _ (h e he)
def spLawTs (Ts : List (Addr × Str)) : SpD := fun ws M Q _ => ∃ ns : List Int, ws = [.scr (ns.map PyData.int)] ∧ ns.length ≤ 63 ∧ TsOk Ts M ∧ ∀ M', Q (.d (.bool true)) M'
theorem spLawTs_len {Ts : List (Addr × Str)} : ∀ ws M Q E, spLawTs Ts ws M Q E → ws.length = 1 := by rintro _ _ _ _ ⟨ns, rfl, _⟩; rfl
def tabM (Ts : List (Addr × Str)) : MH := fun b => (Ts.lookup b).map O.tbl
theorem tabM_mem {Ts : List (Addr × Str)} {b : Addr} {o : O} (h : tabM Ts b = some o) : b ∈ Ts.map (·.1) ∧ ∃ q, o = .tbl q := by
  unfold tabM at h
  cases e : Ts.lookup b with
  | none => rw [e] at h; cases h
  | some q =>
    rw [e] at h
    cases h
    refine ⟨?_, q, rfl⟩
    induction Ts with
    | nil => cases e
    | cons x r ih =>
      rw [List.lookup_cons] at e
      split at e
      · rename_i hb
        rw [List.map_cons, show b = x.1 by simpa using hb]
        exact List.mem_cons_self
      · exact List.mem_cons_of_mem _ (ih e)
theorem tabM_no {Ts : List (Addr × Str)} {b : Addr} (h : b ∉ Ts.map (·.1)) : tabM Ts b = none := by
  cases e : tabM Ts b with
  | none => rfl
  | some o => exact absurd (tabM_mem e).1 h
/-- from a heap in which the script, if at all, and the tables are tracked -/
theorem law_fromTs {P : Program} {w : World} {K : PySem.W.Frag} {mg mb : Str → Option Value} {k : Nat} {fa a : Addr} {Cs : List (Addr × Addr)} {Ts : List (Addr × Str)} {fd : FuncData} {x : Str} {t : Shared} {vs : List Value} {ns : List Int}
    (F : ∀ base : Heap, K.In base → base.Ns mainGlobals mg → SysOk base → (∀ e ∈ Cs, LamX.TabB base mg e.1 e.2) → FnG ⟨P, w, K, mg, base⟩ k fa fd [x] (spLawTs Ts)) (hb : ∀ (s : Shared) (u : Value), BindsTo s fd ⟨[u], []⟩ [(x, u)]) (hr : Room k callerA)
    (KX : K.In t.heap) (hg : t.heap.Ns mainGlobals mg) (hbl : t.heap.Ns builtinsNs mb) (hbb : ∀ x : Str, x ≠ "__name__" → mb x = bootBuiltins x) (hlim : t.heap.NoLimit) (hsys : ∃ mm, t.heap.Ns sysModules mm) (hgen : t.gens = #[])
    (hmod : ∃ (bm : Addr) (ob : Obj), mg "__builtins__" = some (.ref bm) ∧ bm ≠ builtinsNs ∧ t.heap.get? bm = some ob ∧ ob.cls = .type "module" ∧ ob.dict = some builtinsNs ∧ ob.data = .plain)
    (ha : t.heap.get? a = some { cls := .type "list", data := .seq vs.toArray }) (hl : ns.length ≤ 63) (hT : ∀ T ∈ Ts.map (·.1), t.heap.get? T = some { cls := .none, data := .fields #[] }) (nT : ∀ T ∈ Ts.map (·.1), K.lookup T = none) (hC : ∀ e ∈ Cs, PySem.W.CodeHd t.heap e.1 e.2 ∧ e.2 ∈ Ts.map (·.1)) (hCt : ∀ T ∈ Ts.map (·.1), ∃ c, (c, T) ∈ Cs) (hnd : ∀ e ∈ Ts, Ts.lookup e.1 = some e.2)
    (H : Hp) (hS : FS K H (tabM Ts) a (ns.map V.int)) (hH : ∀ T ∈ Ts.map (·.1), H T = some (.tbl #[])) (hok : HOk P w H t.heap) (only : ∀ b u, H b = some u → (b = a ∧ ∃ o xs, u = .frz o (.lst xs)) ∨ b ∈ Ts.map (·.1)) (apart : H a ≠ none → K.lookup a = none) :
    codeAny (model P w) callerA (.call (.ref fa) ⟨[.ref a], []⟩) (fun r s' => r = .ok (.ret (.bool true)) ∧ OldK t.heap s'.heap ∧ s'.os = t.os ∧ AllBare s'.gens) t := by
  have stays : ∀ {b o}, t.heap.get? b = some o → H b = none → (hidT t.heap H).get? b = some o := fun e n => hidT_get e n
  -- what is neither a list nor an empty table is not tracked
  have out : ∀ {b o}, t.heap.get? b = some o → (∀ vs n, o.data ≠ .seq vs n) → o.data ≠ .fields #[] → H b = none := by
    intro b o e h1 h2
    cases q : H b with
    | none => rfl
    | some u =>
      rcases only b u q with ⟨hba, _⟩ | hba
      · subst hba
        rw [ha] at e
        cases e
        exact absurd rfl (h1 _ _)
      · rw [hT b hba] at e
        cases e
        exact absurd rfl h2
  have outD : ∀ {b o es n}, t.heap.get? b = some o → o.data = .dict es n → H b = none := fun e d => out e (fun vs n z => by rw [d] at z; cases z) (fun z => by rw [d] at z; cases z)
  have nsStays : ∀ b m, t.heap.Ns b m → (hidT t.heap H).Ns b m := fun b m ⟨o, es, ep, e, d, r⟩ => ⟨o, es, ep, stays e (outD e d), d, r⟩
  have inBase : K.In (hidT t.heap H) := fun b o e => stays (KX b o e) (by
    cases q : H b with
    | none => rfl
    | some u =>
      rcases only b u q with ⟨hba, _⟩ | hba
      · subst hba
        rw [apart (by rw [q]; exact fun z => by cases z)] at e
        cases e
      · rw [nT b hba] at e
        cases e)
  have hm : Mod K mg (hidT t.heap H) := ⟨inBase, nsStays _ _ hg, ⟨mb, nsStays _ _ hbl, hbb⟩, by
    obtain ⟨mc, z1, z2⟩ := hlim
    exact ⟨mc, nsStays _ _ z1, z2⟩⟩
  have hsy : SysOk (hidT t.heap H) := by
    obtain ⟨mm, z⟩ := hsys
    obtain ⟨o, es, ep, e, d, _⟩ := nsStays _ _ z
    exact ⟨o, es, ep, e, d⟩
  have tb : ∀ e ∈ Cs, LamX.TabB (hidT t.heap H) mg e.1 e.2 := by
    rintro ⟨c, T⟩ hcT
    obtain ⟨hC, mT⟩ := hC _ hcT
    have hT := hT _ mT
    refine ⟨?_, ?_, ?_⟩
    · obtain ⟨o, us, file, tf, flags, tg, inF, text, tt, e1, e2, e3, e4, r⟩ := hC
      refine ⟨o, us, file, tf, flags, tg, inF, text, tt, stays e1 (out e1 (fun vs n z => by rw [e3] at z; cases z) fun z => ?_), e2, e3, e4, r⟩
      rw [e3] at z
      cases z
      simp at e4
    · obtain ⟨bm, ob, b1, b2, b3, b4, b5, b6⟩ := hmod
      refine ⟨bm, ob, b1, b2, ?_, ?_, stays b3 (out b3 (fun vs n z => by rw [b6] at z; cases z) fun z => by rw [b6] at z; cases z), b4, b5, b6⟩
      · rintro rfl
        obtain ⟨o, es, ep, e, d, _⟩ := hg
        rw [b3] at e
        cases e
        rw [b6] at d
        cases d
      · rintro rfl
        rw [b3] at hT
        cases hT
        cases b6
    · intro z
      obtain ⟨o, es, ep, e, d, _⟩ := hg
      rw [z, hT] at e
      cases e
      cases d
  have env : Env0 P w K mg (hidT t.heap H) callerA [] t H := by
    refine ⟨rfl, hm, fun b o e => of_hidT e, Nat.le_of_eq (hidT_size _ _), trivial, ?_, hok, AllBare.of_eq hgen⟩
    intro b hb
    have : b ∈ ([] : List Addr) := hb
    cases this
  have lifted : lift K (spLawTs Ts) [.ref a] H (fun v _ => v = .bl true) (fun _ _ _ => False) := by
    refine ⟨[.scr (ns.map PyData.int)], tabM Ts, fun u _ => u = .d (.bool true), fun _ _ _ => False, ?_, .cons ⟨a, _, rfl, hS, fza_ints ns⟩ .nil, ⟨ns, rfl, hl, fun e he => by unfold tabM; rw [hnd e he]; rfl, fun _ => rfl⟩, ?_, fun _ _ _ _ _ _ _ _ z => z⟩
    · intro b o e
      obtain ⟨hb, q, rfl⟩ := tabM_mem e
      refine ⟨#[], hH b hb, trivial, fun pos cv z => ?_⟩
      simp [codeAmong] at z
    · intro v H' u M' _ _ r e
      subst e
      exact r.bool
  have run := (F _ inBase (nsStays _ _ hg) hsy tb).run callerA [] t H ⟨[.ref a], []⟩ [.ref a] [.ref a] _ _ rfl (fun _ => hr.hd) ⟨hr.dp, hr.un⟩ env (hb t (.ref a)) (.cons rfl .nil) lifted
  refine codeAny_mono run fun r s' h => ?_
  cases r with
  | error e => exact (cx_false (show L2.CX P w [] H t _ e s' from h)).elim
  | ok fl =>
    cases fl with
    | ret u =>
      obtain ⟨v, H', os, bare, un, hok', rv, hv⟩ := h
      obtain rfl : v = .bl true := hv
      obtain rfl : u = Value.bool true := rv
      have grown : ∀ T ∈ Ts.map (·.1), ∃ more, s'.heap.get? T = some { cls := .none, data := .fields (#[] ++ more) } := fun T hTm => by
        obtain ⟨more, gr⟩ := un.tbls T #[] (hH T hTm)
        exact ⟨more, hok' T _ gr⟩
      have rest : ∀ b o, b ∉ Ts.map (·.1) → t.heap.get? b = some o → s'.heap.get? b = some o := by
        intro b o nb e
        cases q : H b with
        | none =>
          refine un.keep b o e q (fun z => ?_) (by simp)
          have : b ∈ ([] : List Addr) := z
          cases this
        | some u' =>
          rcases only b u' q with ⟨_, ob, xs, hu'⟩ | z
          · rw [hu'] at q
            have e1 := (hok b _ q).1
            have e2 := (hok' b _ (un.frzs b ob _ q)).1
            rw [e] at e1
            rw [e2, ← e1]
          · exact absurd z nb
      refine ⟨rfl, ⟨fun b o e => ?_, fun b o e => ?_⟩, os, bare⟩
      · by_cases hbT : b ∈ Ts.map (·.1)
        · obtain ⟨more, gT⟩ := grown b hbT
          obtain ⟨c, hc⟩ := hCt b hbT
          have hTb := hT b hbT
          rw [hTb] at e
          cases e
          exact .inr (.inl ⟨((hC _ hc).1.tab hTb).isCodeTable, rfl, #[], more, rfl, gT⟩)
        · exact .inl (rest b o hbT e)
      · by_cases hbT : b ∈ Ts.map (·.1)
        · obtain ⟨more, gT⟩ := grown b hbT
          exact ⟨_, gT⟩
        · exact ⟨o, rest b o hbT e⟩
    | next => exact (show False from h).elim
    | brk => exact (show False from h).elim
    | cont => exact (show False from h).elim
theorem law_walkTs {l : PySem.W.OpenLaw} {k : Nat} {q : Program} {loose : List Str} {XP : (Str → Option Value) → Heap → Prop} {YP : World → Heap → Prop} {d : DefRec} {K : Params → PySem.W.Frag} {x : Str}
    (hn : l.most = some 63) (hdf : d.params.defaults = []) (hr : Room k callerA) (hq : importsNone q = true) (names : List Str) (hrec : (names.all fun n => ((recsOf q).find? fun e => e.name == n).isSome) = true) (hY : ∀ (w : World) (h : Heap), YP w h → (K w.params).In h)
    (F : ∀ (w : World) (mg : Str → Option Value) (fa : Addr) (h : Heap), (K w.params).In h → h.Ns mainGlobals mg → mg d.name = some (.ref fa) →
      ∃ (fd : FuncData) (Cs : List (Addr × Addr)) (Ts : List (Addr × Str)), (∀ e ∈ Cs, (∃ n ∈ names, PySem.W.tabIn (K w.params) n = some (e.1, e.2)) ∧ e.2 ∈ Ts.map (·.1)) ∧ (∀ T ∈ Ts.map (·.1), (∃ c, (c, T) ∈ Cs) ∧ (K w.params).lookup T = none) ∧ (∀ e ∈ Ts, Ts.lookup e.1 = some e.2) ∧ (∀ (s : Shared) (u : Value), BindsTo s fd ⟨[u], []⟩ [(x, u)]) ∧
        ∀ base : Heap, (K w.params).In base → base.Ns mainGlobals mg → SysOk base → (∀ e ∈ Cs, LamX.TabB base mg e.1 e.2) → FnG ⟨l.prog, w, K w.params, mg, base⟩ k fa fd [x] (spLawTs Ts)) :
    PySem.W.WalkO q loose XP YP l.row.toRowW d [] (fun f vs => PySem.call f vs) := by
  refine Att.attach_call hn hdf ?_
  intro w s₀ t mg mb fa o pm cd doc a vs ns G YY ho hd hcd hmg hobj hints hlen hgen
  have KX := hY w _ YY
  obtain ⟨fd, Cs, Ts, hCs, hTs, hnd, hb, hF⟩ := F w mg fa _ KX G.T.g hmg
  have both : ∀ e ∈ Cs, PySem.W.CodeHd t.heap e.1 e.2 ∧ t.heap.get? e.2 = some { cls := .none, data := .fields #[] } := by
    intro e he
    obtain ⟨⟨n, hn', htab⟩, _⟩ := hCs e he
    obtain ⟨dr, hdr⟩ := Option.isSome_iff_exists.mp (List.all_eq_true.mp hrec n hn')
    exact PySem.W.tab_of G.T KX hdr htab
  have hT : ∀ T ∈ Ts.map (·.1), t.heap.get? T = some { cls := .none, data := .fields #[] } := fun T h => by
    obtain ⟨⟨c, hc⟩, _⟩ := hTs T h
    exact (both _ hc).2
  have rv := vals_ints hints
  have hsys : ∃ mm, t.heap.Ns sysModules mm := by
    have z := G.T.seer hq
    obtain ⟨mm, z1, _⟩ := z.mods
    exact ⟨mm, z1⟩
  have lenV : vs.length = ns.length := by rw [← rv.length, List.length_map]
  have few : ns.length ≤ sizeLine := by rw [sizeLine_eq]; omega
  have aT : a ∉ Ts.map (·.1) := by
    intro h
    have := hT a h
    rw [hobj] at this
    cases this
  have core := fun H => law_fromTs (mb := mb) (vs := vs) (ns := ns) (a := a) hF hb hr KX G.T.g G.T.b G.T.builtins G.T.nolimit hsys hgen G.T.bmain hobj hlen hT (fun T h => (hTs T h).2) (fun e he => ⟨(both e he).1, (hCs e he).2⟩) (fun T h => (hTs T h).1) hnd H
  cases hk : (K w.params).lookup a with
  | some ob =>
    have e := KX a ob hk
    rw [hobj] at e
    cases e
    refine core (fun b => if b ∈ Ts.map (·.1) then some (.tbl #[]) else none) (Or.inr (Or.inr ⟨_, vs.toArray, _, hk, rfl, rfl, rfl, ?_, ?_⟩)) (fun T h => if_pos h) ?_ ?_ ?_
    · rw [List.size_toArray, lenV]; exact few
    · simpa using rv
    · intro b u z
      have z : (if b ∈ Ts.map (·.1) then some (HO.tbl #[]) else none) = some u := z
      by_cases e : b ∈ Ts.map (·.1)
      · rw [if_pos e] at z
        cases z
        exact hT b e
      · rw [if_neg e] at z
        cases z
    · intro b u z
      have z : (if b ∈ Ts.map (·.1) then some (HO.tbl #[]) else none) = some u := z
      by_cases e : b ∈ Ts.map (·.1)
      · exact .inr e
      · rw [if_neg e] at z
        cases z
    · intro z
      exact absurd (if_neg aT) z
  | none =>
    refine core (fun b => if b = a then some (.frz { cls := .type "list", data := .seq vs.toArray } (.lst (ns.map V.int))) else if b ∈ Ts.map (·.1) then some (.tbl #[]) else none) (Or.inl ⟨Or.inr ⟨_, if_pos rfl⟩, tabM_no aT⟩) (fun T h => (if_neg (fun e : T = a => aT (by rw [← e]; exact h))).trans (if_pos h)) ?_ ?_ (fun _ => hk)
    · intro b u z
      have z : (if b = a then some (HO.frz { cls := .type "list", data := .seq vs.toArray } (.lst (ns.map V.int))) else if b ∈ Ts.map (·.1) then some (.tbl #[]) else none) = some u := z
      by_cases e : b = a
      · subst e
        rw [if_pos rfl] at z
        cases z
        exact ⟨hobj, ⟨by rw [List.length_map]; exact few, vs, _, rv, hobj⟩⟩
      · rw [if_neg e] at z
        by_cases e2 : b ∈ Ts.map (·.1)
        · rw [if_pos e2] at z
          cases z
          exact hT b e2
        · rw [if_neg e2] at z
          cases z
    · intro b u z
      have z : (if b = a then some (HO.frz { cls := .type "list", data := .seq vs.toArray } (.lst (ns.map V.int))) else if b ∈ Ts.map (·.1) then some (.tbl #[]) else none) = some u := z
      by_cases e : b = a
      · rw [if_pos e] at z
        cases z
        exact .inl ⟨e, _, _, rfl⟩
      · rw [if_neg e] at z
        by_cases e2 : b ∈ Ts.map (·.1)
        · exact .inr e2
        · rw [if_neg e2] at z
          cases z
/-- a def of the text that makes lambdas: its code object and that one's table -/
def cdA (g : Gc) (x : Str) : Addr := ((PySem.W.tabIn g.K x).getD (0, 0)).1
def tblA (g : Gc) (x : Str) : Addr := ((PySem.W.tabIn g.K x).getD (0, 0)).2
structure PlT (g : Gc) (x : Str) (st : Stmt) : Prop where
  ex : ∃ f fd, L2.Fun g.K x x st f fd ∧ g.mg x = some (.ref f) ∧ fd.code = .ref (cdA g x) ∧ LamX.TabB g.base g.mg (cdA g x) (tblA g x)
theorem df_tab {g : Gc} {i : Si} {k : Nat} {x : Str} {st : Stmt} {ps : List Str} {sp : SpD} {nm : Str} (P : PlT g x st) (hsy : SysOk g.base) (Sc : FnScope i.N ps (defScope st)) (ok : ScOk i (defScope st)) (hq : (x ++ ".<locals>.") ++ "<lambda>" = nm)
    (hb : ∀ (kV doc pm : Value) (an : Option Addr) (cdv ct : Value) (us : List Value), us.length = ps.length → bindArgs (PySem.W.fnOf x x (defArgs st) (defBody st) (defScope st) .none kV doc pm an cdv ct) ⟨us, []⟩ = pure (ps.zip us))
    (len : ∀ ws M Q E, sp ws M Q E → ws.length = ps.length)
    (body : ∀ (Y : Dx) (ws : List W) (M : MH) (Q : W → MH → Prop) (E : XD), Fm g i k Y → Y.wd = (fun cls fs _ M' => E cls fs M') → CodeAt Y (cdA g x) (tblA g x) nm → sp ws M Q E → ∃ t, QSs Y (defBody st) t ∧ t { nx := fun _ M' => Q (.d .none) M', rt := Q } (startD i.N ws) M) :
    Df g (k + 1) x ps sp i.hot := by
  obtain ⟨f, fd, F, m, hcd, tb⟩ := P.ex
  exact ⟨f, fd, fng_tab F Sc ok hsy tb hcd hq len body, m, F.kp, F.binds hb⟩
end Dl
namespace Dl
open PySem PySem.Spec PyProof.Rows L2
theorem plt_of {g : Gc} {x : Str} {st : Stmt} {f c P : Addr} {fd : FuncData} (F : L2.Fun g.K x x st f fd) (m : g.mg x = some (.ref f)) (tq : PySem.W.tabIn g.K x = some (c, P)) (hc : fd.code = .ref c) (tb : LamX.TabB g.base g.mg c P) : PlT g x st :=
  ⟨f, fd, F, m, by unfold cdA; rw [tq]; exact hc, by unfold cdA tblA; rw [tq]; exact tb⟩
theorem tblA_of {g : Gc} {x : Str} {c P : Addr} (tq : PySem.W.tabIn g.K x = some (c, P)) : tblA g x = P := by unfold tblA; rw [tq]; rfl
end Dl
set_option Elab.async false
set_option linter.all false
set_option maxRecDepth 100000
/-! tables of defs: D[k] is a def; a name that holds one, called; D[k](..) -/
namespace Dl
open PySem PySem.Spec PyProof.Rows L2
structure KFn (g : Gc) (x : Str) (d : Addr) (tb : List (Str × Str)) : Prop where
  m : g.mg x = some (.ref d)
  k : ∃ es n, g.K.lookup d = some ⟨.type "dict", none, .dict es n, #[]⟩ ∧ PySem.W.KeysLit g.w.params es.toList ∧ (d == sysModules) = false
  there : ∀ z n, tb.lookup z = some n → ∃ f, PySem.W.nsIn g.K d z = some (some (.ref f)) ∧ g.mg n = some (.ref f)
def fnA (g : Gc) (n : Str) : Addr := match g.mg n with | some (.ref f) => f | _ => 0
theorem fnA_of {g : Gc} {n : Str} {f : Addr} (h : g.mg n = some (.ref f)) : fnA g n = f := by unfold fnA; rw [h]
section
variable {g : Gc} {i : Si} {k : Nat} {Y : Dx}
def tKfx (g : Gc) (tb : List (Str × Str)) (te : TEd) : TEd := fun σ M Q => te σ M fun w M1 => ∃ z n, w = .d (.str z) ∧ tb.lookup z = some n ∧ Q (.ref (fnA g n)) M1
theorem q_kfx (F : Fm g i k Y) (j : Nat) {x : Str} {d : Addr} {tb : List (Str × Str)} {e : Expr} {te : TEd} {px pos : Pos} (C : KFn g x d tb) (he : QE Y e te) (hj : i.gls[j]? = some x := by rfl) (hs : PlainIx e := by intro _ _; rfl) :
    QE Y (.Subscript (.Name x px) e pos) (tKfx g tb te) := by
  obtain ⟨h1, h2, h3⟩ := F.glo j x hj
  obtain ⟨es, n, hl, hk, low⟩ := C.k
  refine ⟨fun s H σ M Q S h => semE_of (pe_ix ix_kdict (pe_glob (v := .ref d) (u := .ref d) h1 (by rw [F.hmg]; exact C.m) rfl h2) pe_sem hs) ?_⟩
  refine he.then_ S h fun v H1 w M1 e1 d1 r1 q => ?_
  obtain ⟨z, nm, rfl, hz, q⟩ := q
  obtain ⟨f, n1, mf⟩ := C.there z nm hz
  cases r1
  have S1 := S.go e1 d1
  rw [fnA_of mf] at q
  exact ⟨d, z, .ref f, rfl, rfl, ⟨es, n, .ref f, by rw [F.hK]; exact hl, by rw [F.hw]; exact hk, by rw [F.hK]; exact n1, rfl⟩, (S1.here (w := .ref f) rfl q).trans e1⟩
/-- a def that may be called here -/
def FnAt (g : Gc) (k : Nat) (n : Str) (sp : SpD) : Prop := ∃ m ps, m ≤ k ∧ Df g m n ps sp
theorem fn_nil : ∀ e ∈ ([] : List (Str × SpD)), FnAt g k e.1 e.2 := fun _ h => nomatch h
theorem fn_cons {n : Str} {m : Nat} {ps : List Str} {sp : SpD} {L : List (Str × SpD)} (D : Df g m n ps sp) (t : ∀ e ∈ L, FnAt g k e.1 e.2) (hm : m ≤ k := by first | exact Nat.le_refl _ | decide | omega) : ∀ e ∈ (n, sp) :: L, FnAt g k e.1 e.2 := fun e h => by
  rcases List.mem_cons.mp h with rfl | h
  · exact ⟨m, ps, hm, D⟩
  · exact t e h
def tCallV (g : Gc) (L : List (Str × SpD)) (j : Nat) (wd : Value → XF → SD → MH → Prop) (t : TAd) : TEd := fun σ M Q => slotQ σ j fun w => ∃ n sp, (n, sp) ∈ L ∧ w = .ref (fnA g n) ∧ t σ M fun ws M1 => sp ws M1 Q (fun cls fs M' => wd cls fs σ M')
theorem q_callV {wd : Value → XF → SD → MH → Prop} (hw : Y.wd = wd) (F : Fm g i k Y) {L : List (Str × SpD)} (hL : ∀ e ∈ L, FnAt g k e.1 e.2) (j : Nat) {x : Str} {e : Expr} {es : List Expr} {t : TAd} {p pos : Pos} (ha : QA Y (e :: es) t) (hN : i.N[j]? = some x := by rfl) (hv : i.vis.contains j = true := by rfl) (hh : i.hot = false := by rfl)
    (he : starEach (e :: es) Y.X.env = (false, eval e Y.X.env) :: starEach es Y.X.env := by rfl) (hpl : (backTo pos (starEach es Y.X.env)).any (·.1) = false := by rfl) : QE Y (.Call (.Name x p) (e :: es) [] pos) (tCallV g L j wd t) := by
  subst hw
  refine ⟨fun s H σ M Q S h pins sh I => ?_⟩
  obtain ⟨w, ew, n, sp, hm, rfl, ht⟩ := slotQ_get h
  obtain ⟨v, ev, rv⟩ := S.s.get ew
  obtain rfl : v = .ref (fnA g n) := rv
  obtain ⟨n1, n2, n3⟩ := F.var j x hv hN
  refine wpAny_Call_Name_kw (thn ((pe_var (pos := p) (i := j) (by rw [F.N]; exact hN) n1 n2 n3).run pins sh s H (fun v H1 => v = .ref (fnA g n) ∧ H1 = H) I ⟨.ref _, ev, rfl, rfl⟩) fun u s1 ⟨v1, H1, I1, r1, q1⟩ => ?_)
  obtain ⟨q1, q2⟩ := q1
  subst q1
  subst q2
  obtain rfl : u = Value.ref (fnA g n) := r1
  obtain ⟨m, ps, hmk, D⟩ := hL _ hm
  obtain ⟨f, fd, FD, mgf, kp, hb⟩ := D.ex
  rw [fnA_of mgf]
  refine PySem.W.callWith_K (h₀ := Y.X.base) I1.ok.mod.kin (by rw [F.hK]; exact kp) (thn ((ha.run s H1 σ M _ S ht) pos pins s1 I1) fun us s2 ⟨vs, H2, I2, r, ws, M1, e1, d1, r1, q1⟩ => ⟨I2.kIn, ?_⟩) he hpl
  exact thn (fn_run F FD (.inr hh) hmk hb (S.go e1 d1) r1 q1 I2 r) fun _ _ ⟨v, H3, I3, r3, z⟩ => ⟨v, H3, I3, r3, z.trans e1⟩
theorem arm_Call_Sub (a b : Expr) (p : Pos) (args : List Expr) (pos : Pos) (env : Env) : eval (.Call (.Subscript a b p) args [] pos) env = (do
    callWith pos (← eval (.Subscript a b p) env) [] (backTo pos (starEach args env)) (backToKw pos (keywordEach [] env))) := rfl
def tCallS (g : Gc) (L : List (Str × SpD)) (tf : TEd) (wd : Value → XF → SD → MH → Prop) (t : TAd) : TEd := fun σ M Q => tf σ M fun w M1 => ∃ n sp, (n, sp) ∈ L ∧ w = .ref (fnA g n) ∧ t σ M1 fun ws M2 => sp ws M2 Q (fun cls fs M' => wd cls fs σ M')
theorem q_callS {wd : Value → XF → SD → MH → Prop} (hw : Y.wd = wd) (F : Fm g i k Y) {L : List (Str × SpD)} (hL : ∀ e ∈ L, FnAt g k e.1 e.2) {a b : Expr} {tf : TEd} {e : Expr} {es : List Expr} {t : TAd} {p pos : Pos} (hf : QE Y (.Subscript a b p) tf) (ha : QA Y (e :: es) t) (hh : i.hot = false := by rfl)
    (he : starEach (e :: es) Y.X.env = (false, eval e Y.X.env) :: starEach es Y.X.env := by rfl) (hpl : (backTo pos (starEach es Y.X.env)).any (·.1) = false := by rfl) : QE Y (.Call (.Subscript a b p) (e :: es) [] pos) (tCallS g L tf wd t) := by
  subst hw
  refine ⟨fun s H σ M Q S h pins sh I => ?_⟩
  rw [arm_Call_Sub]
  refine wpAny_bind (thn (hf.run _ _ _ _ _ S h pins sh I) fun u s1 ⟨v1, H1, I1, r1, w1, M1, e1, d1, rw1, q1⟩ => ?_)
  obtain ⟨n, sp, hm, rfl, ht⟩ := q1
  obtain rfl : v1 = .ref (fnA g n) := rw1
  obtain rfl : u = Value.ref (fnA g n) := r1
  obtain ⟨m, ps, hmk, D⟩ := hL _ hm
  obtain ⟨f, fd, FD, mgf, kp, hb⟩ := D.ex
  rw [fnA_of mgf]
  have S1 := S.go e1 d1
  refine PySem.W.callWith_K (h₀ := Y.X.base) I1.ok.mod.kin (by rw [F.hK]; exact kp) (thn ((ha.run s H1 σ M1 _ S1 ht) pos pins s1 I1) fun us s2 ⟨vs, H2, I2, r, ws, M2, e2, d2, r2, q2⟩ => ⟨I2.kIn, ?_⟩) he hpl
  exact thn (fn_run F FD (.inr hh) hmk hb (S1.go e2 d2) r2 q2 I2 r) fun _ _ ⟨v, H3, I3, r3, z⟩ => ⟨v, H3, I3, r3, (z.trans e2).trans e1⟩
end
/-! ### a table of defs, looked at -/
def chkKF : List DictEntry → List (Str × Addr) → Bool
  | [], [] => true
  | e :: r, (k, f) :: ks => (match e.key with | .str x _ => x == k | _ => false) && (match e.val with | .ref a => a == f | _ => false) && chkKF r ks
  | _, _ => false
theorem chkKF_ok (z : Str) : ∀ (l : List DictEntry) (ks : List (Str × Addr)), chkKF l ks = true → ∀ f, ks.lookup z = some f → ∃ e, l.find? (·.key.isStr z) = some e ∧ e.val = .ref f
  | [], [], _, f, e => by cases e
  | e :: r, [], h, _, _ => by simp [chkKF] at h
  | [], k :: ks, h, _, _ => by simp [chkKF] at h
  | e :: r, (k, f0) :: ks, h, f, hl => by
    simp only [chkKF, Bool.and_eq_true] at h
    have h2 := chkKF_ok z r ks h.2 f
    obtain ⟨hh, key, val⟩ := e
    cases key with
    | str x t =>
      have hx : x = k := eq_of_beq h.1.1
      subst hx
      have e1 : (Value.str x t).isStr z = (x == z) := rfl
      rw [List.lookup_cons] at hl
      rw [List.find?_cons]
      simp only [e1]
      by_cases q : x = z
      · subst q
        simp only [beq_self_eq_true] at hl ⊢
        cases hl
        have hv := h.1.2
        cases val with
        | ref a =>
          have : a = f0 := eq_of_beq hv
          subst this
          exact ⟨_, rfl, rfl⟩
        | _ => exact absurd hv (by simp)
      · have q1 : (x == z) = false := beq_eq_false_iff_ne.mpr q
        have q2 : (z == x) = false := beq_eq_false_iff_ne.mpr fun w => q w.symm
        rw [q2] at hl
        rw [q1]
        exact h2 hl
    | _ => exact absurd h.1.1 (by simp)
inductive FnL (g : Gc) : List (Str × Str) → List (Str × Addr) → Prop
  | nil : FnL g [] []
  | cons {k n : Str} {f : Addr} {tb : List (Str × Str)} {fs : List (Str × Addr)} : g.mg n = some (.ref f) → FnL g tb fs → FnL g ((k, n) :: tb) ((k, f) :: fs)
theorem FnL.get {g : Gc} {tb : List (Str × Str)} {fs : List (Str × Addr)} (h : FnL g tb fs) {z n : Str} (e : tb.lookup z = some n) : ∃ f, fs.lookup z = some f ∧ g.mg n = some (.ref f) := by
  induction h with
  | nil => cases e
  | @cons k n0 f tb fs m t ih =>
    rw [List.lookup_cons] at e ⊢
    split at e
    · rename_i hb
      have e := Option.some.inj e
      subst e
      exact ⟨_, rfl, m⟩
    · exact ih e
theorem kfn_of {g : Gc} {x : Str} {d : Addr} {es : Array DictEntry} {n : Nat} {tb : List (Str × Str)} {fs : List (Str × Addr)} (m : g.mg x = some (.ref d)) (at_ : g.K.lookup d = some ⟨.type "dict", none, .dict es n, #[]⟩) (lit : PySem.W.KeysLit g.w.params es.toList) (low : (d == sysModules) = false) (c : chkKF es.toList fs = true) (L : FnL g tb fs) : KFn g x d tb := by
  refine ⟨m, ⟨es, n, at_, lit, low⟩, fun z nm hz => ?_⟩
  obtain ⟨f, hf, mf⟩ := L.get hz
  obtain ⟨e, he, hv⟩ := chkKF_ok z es.toList fs c f hf
  refine ⟨f, ?_, mf⟩
  unfold PySem.W.nsIn
  rw [at_]
  simp only
  rw [he]
  simp [hv]
end Dl
set_option Elab.async false
set_option linter.all false
set_option maxRecDepth 100000
/-! a text some times -/
namespace Dl
open PySem PySem.Spec PyProof.Rows L2
section
variable {g : Gc} {i : Si} {k : Nat} {Y : Dx}
def rMulS : R2d := fun a b M Q => match a, b with
  | .d (.str z), .d (.int n) => 0 ≤ n ∧ n ≤ 1000 ∧ z.length ≤ 1000 ∧ Q (.d (.str (Txt.mul z n))) M
  | _, _ => False
theorem o_mulS : Op2 Y (binaryOp .Mult) rMulS := by
  intro s H σ M x y a b Q S rx ry q
  unfold rMulS at q
  split at q
  · rename_i z n
    intro pins sh s' v u I r1 r2
    obtain ⟨n0, n1, hz, q⟩ := q
    obtain rfl := rx.str
    obtain rfl := ry.int
    obtain ⟨t, rfl⟩ := r1
    obtain ⟨t2, rfl⟩ := r2
    exact PySem.SB.mul (PyProof.Rows.mulOk_of 1000 1000 hz (by omega) (by omega) (by decide) (by decide)) fun t' k => ⟨.str _, H, I.tok _, ⟨t', rfl⟩, S.here (wStr _) q⟩
  · exact q.elim
end
end Dl
set_option Elab.async false
set_option linter.all false
set_option maxRecDepth 100000
/-! dicts with keys of texts that never change (data); d.get(k, x); dict([..]); repr of what changes; displays -/
namespace Dl
open PySem PySem.Spec PyProof.Rows L2
/-- a dict with keys of texts, as a datum -/
def sdE (kvs : List (Str × PyData)) : List (PyData × PyData) := kvs.map fun q => (.str q.1, q.2)
def sdD (kvs : List (Str × PyData)) : PyData := .dict (sdE kvs)
section
variable {K : PySem.W.Frag} {H : Hp} {M : MH}
theorem sdk_at {z : Str} : ∀ {kvs : List (Str × PyData)} {vs : List (Key × V)}, FzK K H M vs (sdE kvs) → (valV vs (.inr z) = none ∧ kvs.lookup z = none) ∨ ∃ v d, valV vs (.inr z) = some v ∧ kvs.lookup z = some d ∧ Fz K H M v d
  | [], vs, h => by cases h; exact .inl ⟨rfl, rfl⟩
  | (k, d) :: r, vs, h => by
    unfold sdE at h
    rw [List.map_cons] at h
    obtain ⟨k', v, vs', rfl, hk, hv, ht⟩ : ∃ (k' : Key) (v : V) (vs' : List (Key × V)), vs = (k', v) :: vs' ∧ k' = .inr k ∧ Fz K H M v d ∧ FzK K H M vs' (sdE r) := by
      generalize hg : (((PyData.str k, d) : PyData × PyData) :: r.map fun q => (PyData.str q.1, q.2)) = L at h
      cases h with
      | nil => cases hg
      | @cons k' v d' vs' ds' h1 h2 =>
        injection hg with e1 e2
        injection e1 with e3 e4
        subst e4
        refine ⟨k', v, vs', rfl, ?_, h1, by unfold sdE; rw [e2]; exact h2⟩
        cases k' with
        | inl i => cases e3
        | inr x => cases e3; rfl
    subst hk
    rw [List.lookup_cons]
    by_cases e : z = k
    · subst e
      rw [valV_pos (k := (Sum.inr z : Key)) rfl, beq_self_eq_true]
      exact .inr ⟨_, _, rfl, rfl, hv⟩
    · rw [valV_neg (k := (Sum.inr z : Key)) (fun q => e (Sum.inr.inj q).symm), beq_eq_false_iff_ne.mpr e]
      exact sdk_at ht
end
section
variable {X : Cx} {pins : List (Addr × Obj)} {s : L2.St} {H : Hp} {sh : Shared} {M : MH}
theorem fzT_nil {K : PySem.W.Frag} {kvs : List (List Key × V)} : ∀ {l : List (Str × PyData)}, FzT K H M kvs (sdE l) → l = [] ∧ kvs = []
  | [], h => by cases h; exact ⟨rfl, rfl⟩
  | q :: r, h => by
    unfold sdE at h
    rw [List.map_cons] at h
    generalize hg : (((PyData.str q.1, q.2) : PyData × PyData) :: r.map fun q => (PyData.str q.1, q.2)) = L at h
    cases h with
    | nil => cases hg
    | cons h1 h2 =>
      injection hg with e1 e2
      injection e1 with e3 e4
      cases e3
/-- it stands in the heap -/
theorem sd_at (I : Inv X pins s H sh) {kvs : List (Str × PyData)} {v : V} {u : Value} (h : Fz X.K H M v (sdD kvs)) (r : RelV v u) :
    ∃ a, v = .ref a ∧ u = .ref a ∧ (a == sysModules) = false ∧ ∃ (kv : List (Key × V)) (vs : List (Key × Value)), FzK X.K H M kv (sdE kvs) ∧ KV kv vs ∧ sh.heap.DictOf (mixKind X.prog X.w) a vs := by
  unfold sdD at h
  generalize hg : PyData.dict (sdE kvs) = D at h
  cases h with
  | @dK a kv ds h1 h2 h3 =>
    injection hg with e
    subst e
    cases r
    obtain ⟨_, hd, vs, rel, dd⟩ := dk_of I.hok h1
    exact ⟨a, rfl, rfl, hd, kv, vs, h3, rel, dd⟩
  | @dT a kv ds h1 h2 h3 =>
    injection hg with e
    subst e
    cases r
    obtain ⟨rfl, rfl⟩ := fzT_nil h3
    obtain ⟨_, hd, xs, rel, o, es, ep, e1, e2, e3, e4, _⟩ := dt_of I.hok h1
    have x0 : xs = [] := by cases rel; rfl
    subst x0
    have e0 : es = #[] := by
      have : es.toList = [] := by rw [e4]; rfl
      exact Array.toList_eq_nil_iff.mp this
    subst e0
    refine ⟨a, rfl, rfl, hd, [], [], .nil, .nil, o, #[], ep, e1, e2, e3, ?_, .nil, List.nodup_nil⟩
    intro e he
    simp at he
  | _ => cases hg
end
section
variable {g : Gc} {i : Si} {k : Nat} {Y : Dx}
/-- d.get(k, x) of a datum -/
def tDGetD (to ti tx : TEd) : TEd := fun σ M Q => to σ M fun o M1 => ∃ kvs, o = .d (sdD kvs) ∧ ti σ M1 fun x M2 => tx σ M2 fun z M3 => match x with
  | .d (.str y) => Q (match kvs.lookup y with | some d => .d d | none => z) M3
  | _ => False
theorem q_dget2 (F : Fm g i k Y) {o e f : Expr} {to te tx : TEd} {apos cpos : Pos} (ho : QE Y o to) (he : QE Y e te) (hf : QE Y f tx)
    (m : M2 Y.X o "get" apos e f cpos := by exact ⟨by rfl, by rfl, by rfl, by rfl⟩) : QE Y (.Call (.Attribute o "get" apos) [e, f] [] cpos) (tDGetD to te tx) := by
  refine ⟨fun s H σ M Q S h pins sh I => ?_⟩
  refine wpAny_Call_method m.base m.few m.line PySem.F.plainAttrs_dict PySem.F.slot_dict_get PySem.F.type_dict_get (thn (ho.run s H σ M _ S h pins sh I) fun v1 s1 ⟨x1, H1, I1, r1, w1, M1, e1, d1, rw1, kvs, ew, q⟩ => ?_)
  subst ew
  obtain ⟨a, rfl, rfl, hd, kv, vs, fk, rel, dd⟩ := sd_at I1 (show Fz Y.X.K H1 M1 x1 (sdD kvs) from rw1) r1
  refine ⟨dd.typeIs, fun b q => ?_, ?_⟩
  · cases q
    obtain ⟨ob, _, _, h1, h2, _⟩ := dd
    exact ⟨ob, h1, h2.2.1⟩
  have S1 := S.go e1 d1
  rw [m.trees]
  refine Calls.callWith_builtin rfl (Calls.evalArgs_plain (Calls.spliced_cons (thn (he.run s H1 σ M1 _ S1 q pins s1 I1) fun v2 s2 ⟨x2, H2, I2, r2, w2, M2, e2, d2, rw2, q2⟩ =>
    Calls.spliced_cons (thn (hf.run s H2 σ M2 _ (S1.go e2 d2) q2 pins s2 I2) fun v3 s3 ⟨x3, H3, I3, r3, w3, M3, e3, d3, rw3, q3⟩ => Calls.spliced_nil ?_))))
  have rz := rw2.ext e3
  dsimp only at q3
  split at q3
  · rename_i y _
    have rz' : Fz Y.X.K H3 M3 x2 (.str y) := rz
    cases rz'
    have ry : RelV (kV (.inr y)) v2 := r2
    obtain ⟨a', ea, eu, hd', kv', vs', fk', rel', dd'⟩ := sd_at I3 (show Fz Y.X.K H3 M3 (.ref a) (sdD kvs) from Wv.ext (e2.trans e3) rw1) (show RelV (.ref a) (.ref a) from rfl)
    cases ea
    refine call_meetsIn PySem.F.slot_dict_get dd'.typeIs PySem.F.entry_dict_get (PySem.F.args_dict_get_3 _ _ _) (meets_dict_get_default (mixKind Y.X.prog Y.X.w) a (kV_is ry) hd' v3) ⟨_, dd'.mapOf, ?_⟩
    have S3 := (S1.go e2 d2).go e3 d3
    rcases sdk_at (z := y) fk' with ⟨z1, z2⟩ | ⟨v, d, z1, z2, z3⟩
    · rw [z2] at q3
      refine ⟨x3, H3, I3.tok _, ?_, w3, M3, (e1.trans e2).trans e3, d3, rw3, q3⟩
      have := RelO.getD (rel'.val (.inr y)) r3
      rw [z1] at this
      exact this
    · rw [z2] at q3
      refine ⟨v, H3, I3.tok _, ?_, .d d, M3, (e1.trans e2).trans e3, d3, z3, q3⟩
      have := RelO.getD (rel'.val (.inr y)) r3
      rw [z1] at this
      exact this
  · exact q3.elim
/-- d[k] of a datum -/
def tDIx (to ti : TEd) : TEd := fun σ M Q => to σ M fun o M1 => ti σ M1 fun x M2 => ∃ kvs y d, o = .d (sdD kvs) ∧ x = .d (.str y) ∧ kvs.lookup y = some d ∧ Q (.d d) M2
theorem q_dix (F : Fm g i k Y) {a b : Expr} {ta tb : TEd} {pos : Pos} (ha : QE Y a ta) (hb : QE Y b tb) (hs : NoSl b := by intro _ _; rfl) : QE Y (.Subscript a b pos) (tDIx ta tb) := by
  refine ⟨fun s H σ M Q S h pins sh I => ?_⟩
  refine subD_of (T := "dict") PySem.F.slot_dict_getitem.lookup hs (thn (ha.run _ _ _ _ _ S h pins sh I) fun v1 s1 ⟨x1, H1, I1, r1, w1, M1, e1, d1, rw1, q⟩ => ?_)
  refine thn (hb.run _ _ _ _ _ (S.go e1 d1) q pins s1 I1) fun v2 s2 ⟨x2, H2, I2, r2, w2, M2, e2, d2, rw2, kvs, y, d, ew, ex, hl, q2⟩ => ?_
  subst ew ex
  obtain ⟨p, rfl, rfl, hd, kv, vs, fk, rel, dd⟩ := sd_at I2 (show Fz Y.X.K H2 M2 x1 (sdD kvs) from Wv.ext e2 rw1) r1
  have rz' : Fz Y.X.K H2 M2 x2 (.str y) := rw2
  cases rz'
  have ry : RelV (kV (.inr y)) v2 := r2
  refine ⟨dd.typeIs, ?_⟩
  rcases sdk_at (z := y) fk with ⟨z1, z2⟩ | ⟨v, d', z1, z2, z3⟩
  · rw [z2] at hl; cases hl
  · rw [z2] at hl
    cases hl
    obtain ⟨w', hw, rw'⟩ := RelO.some_of (v := v) (o := valueAt vs (.inr y)) (by rw [← z1]; exact rel.val (.inr y))
    exact wpAny_getItem_of (kV_is ry) dd.mapOf hw ⟨v, H2, I2.tok _, rw', .d _, M2, e1.trans e2, d2, z3, q2⟩
/-- k in d of a datum -/
def rDin (neg : Bool) : R2d := fun x o M Q => ∃ kvs y, x = .d (.str y) ∧ o = .d (sdD kvs) ∧ Q (.d (.bool (if neg then !(kvs.lookup y).isSome else (kvs.lookup y).isSome))) M
theorem din_go {s s' : L2.St} {H : Hp} {σ : SD} {M : MH} {x y : V} {z : Str} {kvs : List (Str × PyData)} (S : Std Y s H σ M) (rx : Wv Y.X.K H M x (.d (.str z))) (ry : Wv Y.X.K H M y (.d (sdD kvs))) {pins : List (Addr × Obj)} {sh : Shared} {v u : Value} (I : Inv Y.X pins s' H sh) (r1 : RelV x v) (r2 : RelV y u) :
    ∃ a vs, u = .ref a ∧ (a == sysModules) = false ∧ (mixKind Y.X.prog Y.X.w).is (.inr z) v = true ∧ sh.heap.DictOf (mixKind Y.X.prog Y.X.w) a vs ∧ (valueAt vs (.inr z)).isSome = (kvs.lookup z).isSome := by
  have rz' : Fz Y.X.K H M x (.str z) := rx
  cases rz'
  have rk : RelV (kV (.inr z)) v := r1
  obtain ⟨p, _, rfl, hd, kv, vs, fk, rel, dd⟩ := sd_at I (show Fz Y.X.K H M y (sdD kvs) from ry) r2
  refine ⟨p, vs, rfl, hd, kV_is rk, dd, ?_⟩
  rw [← (rel.val (.inr z)).isSome_eq]
  rcases sdk_at (z := z) fk with ⟨z1, z2⟩ | ⟨v', d', z1, z2, z3⟩ <;> rw [z1, z2] <;> rfl
theorem o_din (F : Fm g i k Y) : Op2 Y (compareOp .In) (rDin false) := by
  intro s H σ M x y a b Q S rx ry q pins sh s' v u I r1 r2
  obtain ⟨kvs, z, rfl, rfl, q⟩ := q
  obtain ⟨p, vs, rfl, hd, hk, dd, he⟩ := din_go S rx ry I r1 r2
  refine wpAny_in_of hk hd dd.mapOf ⟨.bl _, H, I.tok _, rfl, S.here (wBool _) ?_⟩
  rw [he]
  exact q
theorem o_dnotin (F : Fm g i k Y) : Op2 Y (compareOp .NotIn) (rDin true) := by
  intro s H σ M x y a b Q S rx ry q pins sh s' v u I r1 r2
  obtain ⟨kvs, z, rfl, rfl, q⟩ := q
  obtain ⟨p, vs, rfl, hd, hk, dd, he⟩ := din_go S rx ry I r1 r2
  refine wpAny_notIn_of hk hd dd.mapOf ⟨.bl _, H, I.tok _, rfl, S.here (wBool _) ?_⟩
  rw [he]
  exact q
/-- d.get(k, x) of a dict with keys of tuples -/
def tNGet2 (P : Program) (w : World) (to ti tx : TEd) : TEd := fun σ M Q => to σ M fun o M1 => match o with
  | .ref p => (∃ kvs, M1 p = some (.dN P w kvs)) ∧ ti σ M1 fun x M2 => tx σ M2 fun z M3 => match x with
    | .d x => ∃ kvs k, M3 p = some (.dN P w kvs) ∧ x = NestedKey.data k ∧ isTup x = true ∧ k.depth ≤ 8 ∧ Q ((nAt kvs k).getD z) M3
    | _ => False
  | _ => False
theorem q_nget2 (F : Fm g i k Y) {o e f : Expr} {to te tx : TEd} {apos cpos : Pos} (ho : QE Y o to) (he : QE Y e te) (hf : QE Y f tx)
    (m : M2 Y.X o "get" apos e f cpos := by exact ⟨by rfl, by rfl, by rfl, by rfl⟩) : QE Y (.Call (.Attribute o "get" apos) [e, f] [] cpos) (tNGet2 g.P g.w to te tx) := by
  refine ⟨fun s H σ M Q S h pins sh I => ?_⟩
  refine wpAny_Call_method m.base m.few m.line PySem.F.plainAttrs_dict PySem.F.slot_dict_get PySem.F.type_dict_get (thn (ho.run s H σ M _ S h pins sh I) fun v1 s1 ⟨x1, H1, I1, r1, w1, M1, e1, d1, rw1, q⟩ => ?_)
  dsimp only at q
  split at q
  · rename_i p
    obtain ⟨⟨kvs0, hm0⟩, q⟩ := q
    rw [← F.hP, ← F.hw] at hm0
    obtain rfl := (show x1 = _ from rw1)
    cases r1
    obtain ⟨xs0, _, _, hsys, _, _, hdict0⟩ := dn_at I1 d1 hm0
    refine ⟨hdict0.typeIs, fun b q => ?_, ?_⟩
    · cases q
      obtain ⟨ob, _, _, h1, h2, _⟩ := hdict0
      exact ⟨ob, h1, h2.2.1⟩
    have S1 := S.go e1 d1
    rw [m.trees]
    have hu : (nestedKind Y.X.prog Y.X.w).room Y.X.A.in1 := by have := F.room.un; show Y.X.A.units + 1 + 8 < cLine; omega
    refine wpAny_dict_get2_heap (knd := nestedKind Y.X.prog Y.X.w) hu hsys (thn (he.run s H1 σ M1 _ S1 q pins s1 I1) fun v2 s2 ⟨x2, H2, I2, r2, w2, M2, e2, d2, rw2, q2⟩ =>
      thn (hf.run s H2 σ M2 _ (S1.go e2 d2) q2 pins s2 I2) fun v3 s3 ⟨x3, H3, I3, r3, w3, M3, e3, d3, rw3, q3⟩ => ?_)
    have rz := rw2.ext e3
    dsimp only at q3
    split at q3
    · rename_i x
      obtain ⟨kvs, kk, hm, hx, ht, hdp, q3⟩ := q3
      rw [← F.hP, ← F.hw] at hm
      obtain ⟨xs, _, _, _, _, hp, hdict⟩ := dn_at I3 d3 hm
      obtain ⟨b, rfl⟩ := tup_ref rz ht
      cases r2
      subst hx
      have hk : (nestedKind Y.X.prog Y.X.w).is s3.heap kk b := ⟨Fz.nested I3 kk _ _ rz rfl, hdp⟩
      refine ⟨b, kk, xs, rfl, hk, hdict, ?_⟩
      rcases RN.at hp kk with ⟨z1, z2⟩ | ⟨pp, w', v', z1, z2, z3, z4⟩
      · rw [z2] at q3
        rw [z1]
        exact ⟨x3, H3, I3.tok _, r3, w3, M3, (e1.trans e2).trans e3, d3, rw3, q3⟩
      · rw [z2] at q3
        rw [z1]
        exact ⟨v', H3, I3.tok _, z3, w', M3, (e1.trans e2).trans e3, d3, z4, q3⟩
    · exact q3.elim
  · exact q.elim
end
end Dl
set_option Elab.async false
set_option linter.all false
set_option maxRecDepth 100000
/-! dict([..]), repr of what changes, displays of dicts -/
namespace Dl
open PySem PySem.Spec PyProof.Rows L2
/-! ### what is seen of a value now -/
mutual
inductive Seen (P : Program) (w : World) (M : MH) : W → PyData → Prop
  | d (x : PyData) : Seen P w M (.d x) x
  | tup {a : Addr} {ws : List W} {ds : List PyData} : M a = some (.tup ws) → SeenA P w M ws ds → Seen P w M (.ref a) (.tuple ds)
  | lst {a : Addr} {ws : List W} {ds : List PyData} : M a = some (.lst ws) → SeenA P w M ws ds → Seen P w M (.ref a) (.list ds)
  | dN {a : Addr} {kvs : List (NestedKey × W)} {ds : List PyData} : M a = some (.dN P w kvs) → SeenA P w M (kvs.map (·.2)) ds → Seen P w M (.ref a) (.dict ((kvs.map fun q => q.1.data).zip ds))
inductive SeenA (P : Program) (w : World) (M : MH) : List W → List PyData → Prop
  | nil : SeenA P w M [] []
  | cons {v : W} {vs : List W} {d : PyData} {ds : List PyData} : Seen P w M v d → SeenA P w M vs ds → SeenA P w M (v :: vs) (d :: ds)
end
theorem SeenA.len {P : Program} {w : World} {M : MH} : ∀ {ws : List W} {ds : List PyData}, SeenA P w M ws ds → ws.length = ds.length
  | [], _, h => by cases h; rfl
  | v :: vs, _, h => by
    cases h with
    | cons h1 h2 => rw [List.length_cons, List.length_cons, h2.len]
section
variable {X : Cx} {pins : List (Addr × Obj)} {s : L2.St} {H : Hp} {sh : Shared} {M : MH}
theorem rn_reads (I : Inv X pins s H sh) (hsy : SysOk X.base) : ∀ {xs : List (NestedKey × Addr × Value)} {kvs : List (NestedKey × W)}, Paired (RN X.K H M) xs kvs → ∃ as, ReadsAll sh.heap (xs.map fun x => Value.ref x.2.1) (kvs.map fun q => q.1.data) as ∧ sysModules ∉ as
  | _, _, .nil => ⟨_, .nil, by simp⟩
  | _, _, .cons r t => by
    obtain ⟨as, h1, z1⟩ := rn_reads I hsy t
    obtain ⟨bs, h2, z2⟩ := Fz.reads I hsy _ _ _ r.2.1 rfl
    exact ⟨_, .cons h2 h1, by simp only [List.mem_append, not_or]; exact ⟨z2, z1⟩⟩
theorem rn_vals {K : PySem.W.Frag} : ∀ {xs : List (NestedKey × Addr × Value)} {kvs : List (NestedKey × W)}, Paired (RN K H M) xs kvs → ∃ vs, Vals vs (xs.map (·.2.2)) ∧ WvA K H M vs (kvs.map (·.2))
  | _, _, .nil => ⟨[], .nil, .nil⟩
  | _, _, .cons r t => by
    obtain ⟨vs, h1, h2⟩ := rn_vals t
    obtain ⟨_, _, _, v, r1, r2⟩ := r
    exact ⟨v :: vs, .cons r1 h1, .cons r2 h2⟩
mutual
theorem Seen.reads (I : Inv X pins s H sh) (hsy : SysOk X.base) (D : Dok X.K H M) : ∀ {w : W} {d : PyData} {v : V} {u : Value}, Seen X.prog X.w M w d → Wv X.K H M v w → RelV v u → ∃ as, Reads sh.heap u d as ∧ sysModules ∉ as
  | _, _, v, u, .d x, h, r => Fz.reads I hsy x v u h r
  | _, _, v, u, .tup (a := a) hm hs, h, r => by
    obtain rfl := (show v = _ from h)
    cases r
    obtain ⟨xs, e1, e2⟩ := D _ _ hm
    obtain ⟨its, rv, ⟨o, ho, hc, n, hd⟩, _⟩ := I.tuple (SqT.of (K := X.K) e1)
    obtain ⟨as, hr, z⟩ := SeenA.reads I hsy D hs e2 rv
    exact ⟨_, .tuple ho hc hd hr, z⟩
  | _, _, v, u, .lst (a := a) hm hs, h, r => by
    obtain rfl := (show v = _ from h)
    cases r
    obtain ⟨xs, e1, e2⟩ := D _ _ hm
    obtain ⟨its, rv, ⟨o, n, ho, hc, _, hd⟩, _⟩ := I.list (SqL.of (K := X.K) e1)
    obtain ⟨as, hr, z⟩ := SeenA.reads I hsy D hs e2 rv
    exact ⟨_, .list ho hc hd hr, by simp only [List.mem_cons, not_or]; exact ⟨fun e => seq_notSys I hsy ho hd e.symm, z⟩⟩
  | _, _, v, u, .dN (a := a) (kvs := kvs) (ds := ds) hm hs, h, r => by
    obtain rfl := (show v = _ from h)
    cases r
    obtain ⟨xs, h1, _, hz, _, hp⟩ := D _ _ hm
    obtain ⟨o, es, ep, e1, e2, e3, e4⟩ := (I.hok a _ h1).1
    obtain ⟨as, ka, z1⟩ := rn_reads I hsy hp
    obtain ⟨vs, rv, wv⟩ := rn_vals hp
    obtain ⟨bs, kb, z2⟩ := SeenA.reads I hsy D hs wv rv
    have hl : kvs.length = ds.length := by rw [← hs.len, List.length_map]
    refine ⟨_, .dict e1 e2.1 e3 (as := as) (bs := bs) ?_ ?_, ?_⟩
    · rw [e4, List.map_map, List.map_fst_zip (by rw [List.length_map]; omega)]
      exact ka
    · rw [e4, List.map_map, List.map_snd_zip (by rw [List.length_map]; omega)]
      exact kb
    · simp only [List.cons_append, List.mem_cons, List.mem_append, not_or]
      exact ⟨fun e => by rw [← e] at hz; simp at hz, z1, z2⟩
theorem SeenA.reads (I : Inv X pins s H sh) (hsy : SysOk X.base) (D : Dok X.K H M) : ∀ {ws : List W} {ds : List PyData} {vs : List V} {us : List Value}, SeenA X.prog X.w M ws ds → WvA X.K H M vs ws → Vals vs us → ∃ as, ReadsAll sh.heap us ds as ∧ sysModules ∉ as
  | _, _, vs, us, .nil, h, r => by cases h; cases r; exact ⟨_, .nil, by simp⟩
  | _, _, vs, us, .cons h1 h2, h, r => by
    cases h with
    | cons w1 w2 =>
      cases r with
      | cons r1 r2 =>
        obtain ⟨as, q1, z1⟩ := Seen.reads I hsy D h1 w1 r1
        obtain ⟨bs, q2, z2⟩ := SeenA.reads I hsy D h2 w2 r2
        exact ⟨_, .cons q1 q2, by simp only [List.mem_append, not_or]; exact ⟨z1, z2⟩⟩
end
end
section
variable {g : Gc} {i : Si} {k : Nat} {Y : Dx}
/-- repr(x) of what changes -/
def rReprM (P : Program) (w : World) : RCd := fun ws M Q => ∃ p d, ws = [.ref p] ∧ Seen P w M (.ref p) d ∧ showOk d ∧ Q (.d (.str d.shown)) M
theorem c_reprM (F : Fm g i k Y) : OpC Y (.builtin "repr") (rReprM g.P g.w) := by
  intro s H σ M xs ws Q S rx q
  have hu := F.room.un
  obtain ⟨p, d, rfl, hs, ⟨h1, h2, h3⟩, q⟩ := q
  rw [← F.hP, ← F.hw] at hs
  obtain ⟨v, rfl, r⟩ := rx.one
  intro pins sh s' us I ru
  obtain ⟨u, rfl, ru1⟩ := vals1 ru
  clear ru
  obtain ⟨as, rd, hz⟩ := hs.reads I F.sy S.d r ru1
  obtain rfl := (show v = _ from r)
  cases ru1
  exact repr_of_reads' rd h1 (fun _ => hz) F.gd (by omega) (fun _ _ e => e) (fun h' t tk hk => ⟨.str d.shown, H, I.kept hk, ⟨t, rfl⟩, S.here (wStr _) q⟩) h2
/-! ### a dict with keys of texts, put together -/
def sPuts {α : Type} (l : List (Str × α)) (more : List (Str × α)) : List (Str × α) := more.foldl (fun a q => sPut a q.1 q.2) l
theorem skv_merge {K : PySem.W.Frag} {H : Hp} {M : MH} : ∀ {more : List (Str × W)} {ks : List (Key × V)} {l : List (Str × W)} {vs : List (Key × V)}, WvK K H M ks (skv more) → WvK K H M vs (skv l) → WvK K H M (mergeK vs ks) (skv (sPuts l more))
  | [], _, l, vs, h, q => by cases h; exact q
  | (z, w) :: more, _, l, vs, h, q => by
    cases h with
    | @cons p _ ks _ r t =>
      obtain ⟨k, v⟩ := p
      obtain ⟨r1, r2⟩ := r
      have r1' : k = .inr z := r1
      subst r1'
      show WvK K H M (mergeK (putK vs (.inr z) v) ks) (skv (sPuts (sPut l z w) more))
      exact skv_merge t (skv_put r2 q)
theorem sPuts_len {α : Type} : ∀ (more l : List (Str × α)), (sPuts l more).length ≤ l.length + more.length
  | [], l => by show l.length ≤ _; omega
  | q :: r, l => by
    have h1 := sPuts_len r (sPut l q.1 q.2)
    have h2 := sPut_len l q.1 q.2
    show (sPuts (sPut l q.1 q.2) r).length ≤ _
    rw [List.length_cons]; omega
theorem sPuts_nodup {α : Type} : ∀ (more l : List (Str × α)), ((l ++ more).map (·.1)).Nodup → sPuts l more = l ++ more
  | [], l, _ => by rw [List.append_nil]; rfl
  | q :: r, l, h => by
    have e : sHas l q.1 = false := by
      unfold sHas
      cases hl : l.lookup q.1 with
      | none => rfl
      | some x =>
        exfalso
        rw [List.map_append, List.map_cons] at h
        have hm : q.1 ∈ l.map (·.1) := by
          clear h
          induction l with
          | nil => cases hl
          | cons y t ih =>
            rw [List.map_cons, List.mem_cons]
            rw [List.lookup_cons] at hl
            by_cases e : q.1 = y.1
            · exact .inl e
            · rw [beq_eq_false_iff_ne.mpr e] at hl
              exact .inr (ih hl)
        exact (List.nodup_append.mp h).2.2 _ hm _ (List.mem_cons_self ..) rfl
    show sPuts (sPut l q.1 q.2) r = _
    have e2 : sPut l q.1 q.2 = l ++ [q] := by
      unfold sPut
      rw [e, if_neg (by simp)]
    rw [e2, sPuts_nodup r (l ++ [q]) (by rw [List.append_assoc]; exact h), List.append_assoc]
    rfl
/-- a dict that changes, kept as a datum -/
def tFrzD (t : TEd) : TEd := fun σ M Q => t σ M fun w M1 => ∃ p kvs, w = .ref p ∧ M1 p = some (.dK (skv (kvs.map fun q => (q.1, .d q.2)))) ∧ Q (.d (sdD kvs)) (mdel M1 p)
theorem wvK_fz {K : PySem.W.Frag} {H : Hp} {M : MH} : ∀ {kvs : List (Str × PyData)} {vs : List (Key × V)}, WvK K H M vs (skv (kvs.map fun q => (q.1, W.d q.2))) → FzK K H M vs (sdE kvs)
  | [], vs, h => by cases h; exact .nil
  | (z, d) :: r, vs, h => by
    cases h with
    | @cons p _ vs _ r1 t =>
      obtain ⟨k, v⟩ := p
      obtain ⟨e1, e2⟩ := r1
      have e1' : k = .inr z := e1
      subst e1'
      exact FzK.cons (k := .inr z) e2 (wvK_fz t)
theorem FzK.extG {K : PySem.W.Frag} {H H' : Hp} {M M' : MH} (e : Ext H M H' M') : ∀ {ds : List (PyData × PyData)} {vs : List (Key × V)}, FzK K H M vs ds → FzK K H' M' vs ds
  | [], _, h => by cases h; exact .nil
  | (kd, d) :: ds, _, h => by
    cases h with
    | cons h1 h2 => exact .cons (Fz.ext e _ _ h1) (h2.extG e)
theorem q_frzD {e : Expr} {t : TEd} (he : QE Y e t) : QE Y e (tFrzD t) := by
  refine ⟨fun s H σ M Q S h => he.then_ S h fun v H1 w M1 e d r q => ?_⟩
  obtain ⟨p, kvs, rfl, hm, q2⟩ := q
  obtain rfl := (show v = _ from r)
  obtain ⟨vs, h1, h2⟩ := d _ _ hm
  exact ⟨.d (sdD kvs), mdel M1 p, e.trans (ext_less mdel_less), dok_less d mdel_less, Fz.dK h1 mdel_same (FzK.extG (ext_less mdel_less) (wvK_fz h2)), q2⟩
/-- dict(l) of a list of pairs -/
def prD (q : Str × PyData) : PyData := .tuple [.str q.1, q.2]
def rDictP : RCd := fun ws M Q => match ws with
  | [.d (.list xs)] => ∃ kvs : List (Str × PyData), xs = kvs.map prD ∧ ∀ p, M p = none → Q (.ref p) (mset M p (.dK (skv (sPuts [] (kvs.map fun q => (q.1, .d q.2))))))
  | [.ref a] => ∃ ws, M a = some (.lst ws) ∧ ∃ kvs : List (Str × PyData), ws = kvs.map (fun q => .d (prD q)) ∧ ∀ p, M p = none → Q (.ref p) (mset M p (.dK (skv (sPuts [] (kvs.map fun q => (q.1, .d q.2))))))
  | _ => False
theorem prs_of {K : PySem.W.Frag} {H : Hp} {M : MH} : ∀ {kvs : List (Str × PyData)} {vs : List V}, FzA K H M vs (kvs.map prD) → ∃ (ps : List Addr) (ks : List (Key × V)), vs = ps.map V.ref ∧ Paired (fun p kv => SqT K H p [kV kv.1, kv.2]) ps ks ∧ WvK K H M ks (skv (kvs.map fun q => (q.1, W.d q.2)))
  | [], _, h => by cases h; exact ⟨[], [], rfl, .nil, .nil⟩
  | (z, d) :: r, _, h => by
    rw [List.map_cons] at h
    cases h with
    | @cons v _ vs _ h1 h2 =>
      obtain ⟨ps, ks, rfl, hp, hw⟩ := prs_of h2
      obtain ⟨p, ys, rfl, f1, f2⟩ := (show Wv K H M v (.d (.tuple [.str z, d])) from h1).tup
      cases f2 with
      | cons g1 g2 =>
        cases g2 with
        | cons g2 g3 =>
          cases g3
          cases g1
          exact ⟨p :: ps, (.inr z, _) :: ks, rfl, .cons f1.sq hp, .cons ⟨rfl, g2⟩ hw⟩
theorem c_dictP (F : Fm g i k Y) (hc : i.hot = false := by rfl) : OpC Y (.type "dict") rDictP := by
  intro s H σ M xs ws Q S rx q
  have fin : ∀ (a : Addr) (vs : List V) (kvs : List (Str × PyData)), SqL Y.X.K H a vs → FzA Y.X.K H M vs (kvs.map prD) → (∀ p, M p = none → Q (.ref p) (mset M p (.dK (skv (sPuts [] (kvs.map fun q => (q.1, .d q.2))))))) → semC Y.X (.type "dict") [.ref a] H (up Y H M Q) := by
    intro a vs kvs hq hf q
    obtain ⟨ps, ks, rfl, hp, hw⟩ := prs_of hf
    refine semC_of (call_dictP (F.calm hc)) ⟨a, ps, ks, rfl, hq, hp, fun p n => ?_⟩
    have X1 : Ext H M (upd H p (.dK (mergeK [] ks))) (mset M p (.dK (skv (sPuts [] (kvs.map fun q => (q.1, W.d q.2)))))) := ext_mut (.inr n)
    exact ⟨.ref p, _, X1, dok_mut S.d (.inr n) fun e => ⟨_, upd_same, WvK.ext e (skv_merge hw .nil)⟩, rfl, q p (S.d.free n)⟩
  unfold rDictP at q
  split at q
  · obtain ⟨v, rfl, r⟩ := rx.one
    obtain ⟨p, ys, rfl, h1, h2⟩ := r.lst
    obtain ⟨kvs, rfl, q⟩ := q
    exact fin p ys kvs h1.sq h2 q
  · obtain ⟨v, rfl, r⟩ := rx.one
    obtain ⟨ws', hm, kvs, rfl, q⟩ := q
    obtain rfl := (show v = _ from r)
    obtain ⟨ys, h1, h2⟩ := S.d _ _ hm
    refine fin _ ys kvs (SqL.of h1) (FzA.of_wv ?_) q
    rw [List.map_map]
    exact h2
  · exact q.elim
end
end Dl
set_option Elab.async false
set_option linter.all false
set_option maxRecDepth 100000
/-! displays of dicts: {k: v, ..} -/
namespace Dl
open PySem PySem.Spec PyProof.Rows L2
abbrev TPd := SD → MH → (List (W × W) → MH → Prop) → Prop
def tPnil : TPd := fun _ M Q => Q [] M
def tPcons (tk tv : TEd) (r : TPd) : TPd := fun σ M Q => tk σ M fun k M1 => tv σ M1 fun v M2 => r σ M2 fun l M3 => Q ((k, v) :: l) M3
/-- the pairs of values -/
def RP (K : PySem.W.Frag) (H : Hp) (M : MH) (u : Value × Value) (q : W × W) : Prop := ∃ v1 v2, RelV v1 u.1 ∧ RelV v2 u.2 ∧ Wv K H M v1 q.1 ∧ Wv K H M v2 q.2
structure QP (Y : Dx) (pos : Pos) (keys : List (Option Expr)) (values : List Expr) (t : TPd) : Prop where
  run : ∀ s H σ M Q, Std Y s H σ M → t σ M Q → ∀ pins sh, Inv Y.X pins s H sh → wpAny (model Y.X.prog Y.X.w) Y.X.A (evalPairs (pairTrees keys values Y.X.env pos))
    (fun us s' => ∃ ls H' M', Inv Y.X pins s H' s' ∧ Ext H M H' M' ∧ Dok Y.X.K H' M' ∧ Paired (RP Y.X.K H' M') us ls ∧ Q ls M') Y.X.xe sh
section
variable {g : Gc} {i : Si} {k : Nat} {Y : Dx} {pos : Pos}
theorem qp_nil : QP Y pos [] [] tPnil := ⟨fun s H σ M Q S h pins sh I => pairTrees_nil_walk ⟨[], H, M, I, .refl _ _, S.d, .nil, h⟩⟩
theorem qp_cons {ek ev : Expr} {ks : List (Option Expr)} {vs : List Expr} {tk tv : TEd} {r : TPd} (hk : QE Y ek tk) (hv : QE Y ev tv) (h : QP Y pos ks vs r) : QP Y pos (some ek :: ks) (ev :: vs) (tPcons tk tv r) := by
  refine ⟨fun s H σ M Q S q pins sh I => ?_⟩
  refine pairTrees_cons_walk (thn (hk.run _ _ _ _ _ S q pins _ I) fun v1 s1 ⟨x1, H1, I2, r1, w1, M1, e1, d1, rw1, q⟩ => ?_)
  refine thn (hv.run _ _ _ _ _ (S.go e1 d1) q pins s1 I2) fun v2 s2 ⟨x2, H2, I3, r2, w2, M2, e2, d2, rw2, q2⟩ => ?_
  refine thn (h.run s H2 σ M2 _ ((S.go e1 d1).go e2 d2) q2 pins s2 I3) fun us s3 ⟨ls, H3, M3, I4, e3, d3, hp, q3⟩ => ?_
  exact ⟨(w1, w2) :: ls, H3, M3, I4, (e1.trans e2).trans e3, d3, .cons ⟨x1, x2, r1, r2, rw1.ext (e2.trans e3), rw2.ext e3⟩ hp, q3⟩
/-- {k: v, ..}, keys tuples -/
def nPuts (l more : List (NestedKey × W)) : List (NestedKey × W) := more.foldl (fun a q => nPut a q.1 q.2) l
def tNDisL (P : Program) (w : World) (t : TPd) : TEd := fun σ M Q => ∀ p, M p = none → t σ (mset M p (.dN P w [])) fun ls M2 => M2 p = some (.dN P w []) ∧
  ∃ kvs : List (NestedKey × W), ls = kvs.map (fun q => (W.d q.1.data, q.2)) ∧ (∀ q ∈ kvs, isTup q.1.data = true ∧ q.1.depth ≤ 8) ∧ kvs.length ≤ 15 ∧ Q (.ref p) (mset M2 p (.dN P w (nPuts [] kvs)))
theorem carriesN {pins : List (Addr × Obj)} {s : L2.St} {H : Hp} {sh : Shared} {M : MH} (I : Inv Y.X pins s H sh) : ∀ {us : List (Value × Value)} {kvs : List (NestedKey × W)}, Paired (RP Y.X.K H M) us (kvs.map fun q => (W.d q.1.data, q.2)) → (∀ q ∈ kvs, isTup q.1.data = true ∧ q.1.depth ≤ 8) →
    ∃ xs : List (NestedKey × Addr × Value), CarriesH (nestedKind Y.X.prog Y.X.w) sh.heap us xs ∧ Paired (RN Y.X.K H M) xs kvs
  | _, [], h, _ => by cases h; exact ⟨[], trivial, .nil⟩
  | _, q :: r, h, hq => by
    rw [List.map_cons] at h
    cases h with
    | @cons u _ us _ h1 h2 =>
      obtain ⟨u1, u2⟩ := u
      obtain ⟨xs, c, hp⟩ := carriesN I h2 fun z hz => hq z (List.mem_cons_of_mem _ hz)
      obtain ⟨v1, v2, r1, r2, w1, w2⟩ := h1
      obtain ⟨ht, hd⟩ := hq q (List.mem_cons_self ..)
      have w1' : Fz Y.X.K H M v1 q.1.data := w1
      obtain ⟨b, rfl⟩ := tup_ref w1' ht
      have r1' : u1 = .ref b := r1
      subst r1'
      exact ⟨(q.1, b, u2) :: xs, ⟨rfl, rfl, ⟨Fz.nested I q.1 _ _ w1' rfl, hd⟩, c⟩, .cons ⟨rfl, w1', hd, v2, r2, w2⟩ hp⟩
theorem rn_puts {K : PySem.W.Frag} {H : Hp} {M : MH} : ∀ {ms : List (NestedKey × Addr × Value)} {more : List (NestedKey × W)} {xs : List (NestedKey × Addr × Value)} {l : List (NestedKey × W)}, Paired (RN K H M) ms more → Paired (RN K H M) xs l → Paired (RN K H M) (storedAllH xs ms) (nPuts l more)
  | _, _, _, _, .nil, h => h
  | x :: ms, q :: more, xs, l, .cons r t, h => by
    obtain ⟨h1, h2, h3, v, h4, h5⟩ := r
    show Paired (RN K H M) (storedAllH (storedH xs x.1 x.2.1 x.2.2) ms) (nPuts (nPut l q.1 q.2) more)
    rw [h1]
    exact rn_puts t (RN.put h h2 h3 h4 h5)
theorem nPuts_len : ∀ (more l : List (NestedKey × W)), (nPuts l more).length ≤ l.length + more.length
  | [], l => by show l.length ≤ _; omega
  | q :: r, l => by
    have h1 := nPuts_len r (nPut l q.1 q.2)
    have h2 := nPut_len l q.1 q.2
    show (nPuts (nPut l q.1 q.2) r).length ≤ _
    rw [List.length_cons]; omega
theorem nPuts_nodup : ∀ (more l : List (NestedKey × W)), (l.map (·.1)).Nodup → ((nPuts l more).map (·.1)).Nodup
  | [], l, h => h
  | q :: r, l, h => nPuts_nodup r (nPut l q.1 q.2) (nPut_nodup h q.1 q.2)
theorem q_ndisL (F : Fm g i k Y) {keys : List (Option Expr)} {values : List Expr} {t : TPd} (h : QP Y pos keys values t) (hall : keys.all (·.isSome) = true := by rfl) (hl : keys.length = values.length := by rfl) (h0 : keys ≠ [] := by simp) (h15 : keys.length ≤ 15 := by decide) :
    QE Y (.Dict keys values pos) (tNDisL g.P g.w t) := by
  refine ⟨fun s H σ M Q S hq pins sh I => ?_⟩
  rw [← F.hP, ← F.hw] at hq
  obtain ⟨p, hp⟩ : ∃ p, p = sh.heap.objs.size := ⟨_, rfl⟩
  have n0 : H p = none := by rw [hp]; exact I.hok.fresh (Nat.le_refl _)
  have m0 := S.d.free n0
  have X1 : Ext H M (upd H p (DctN Y.X.prog Y.X.w [] p)) (mset M p (.dN Y.X.prog Y.X.w [])) := ext_mut (.inr n0)
  have D1 : Dok Y.X.K (upd H p (DctN Y.X.prog Y.X.w [] p)) (mset M p (.dN Y.X.prog Y.X.w [])) := dok_mut (u := .dN Y.X.prog Y.X.w []) S.d (.inr n0) fun e => ⟨[], upd_same, Nat.zero_le _, by rw [hp]; exact not_sys I F.sy, List.nodup_nil, .nil⟩
  have I1 : Inv Y.X pins s (upd H p (DctN Y.X.prog Y.X.w [] p)) { sh with heap := sh.heap.push { cls := .type "dict", data := .dict #[] } } := by
    rw [hp]
    refine I.laid (o := DctN Y.X.prog Y.X.w [] sh.heap.objs.size) (t' := sh.toks) (fun _ _ q => Heap.get?_push_of_some _ q) (Nat.le_refl _) ?_
    obtain ⟨o, es, ep, e1, e2, e3, e4, _⟩ := Heap.DictOfH.new (knd := nestedKind Y.X.prog Y.X.w) sh.heap
    exact ⟨⟨o, es, ep, e1, e2, e3, e4⟩, ⟨o, e1⟩, fun _ _ ⟨o', es', ep', z1, z2⟩ k => ⟨o', es', ep', k o' z1, z2⟩⟩
  have S1 : Std Y s (upd H p (DctN Y.X.prog Y.X.w [] p)) σ (mset M p (.dN Y.X.prog Y.X.w [])) := S.go X1 D1
  have hu : (nestedKind Y.X.prog Y.X.w).room Y.X.A := by have := F.room.un; show Y.X.A.units + 8 < cLine; omega
  have hn := pairTrees_length keys values Y.X.env pos hall hl
  have ne : pairTrees keys values Y.X.env pos ≠ [] := fun z => h0 (List.length_eq_zero_iff.mp (by rw [← hn, z]; rfl))
  rw [arm_eval_Dict, zip_pairTrees keys values Y.X.env pos hall hl, dictDisplay_pairs _ ne (by rw [hn]; omega)]
  refine wpAny_bind (wpAny_standAt (wpAny_bind (wpAny_subDictH (knd := nestedKind Y.X.prog Y.X.w) hu (by rw [hn]; exact h15) ?_)))
  refine thn (h.run s _ σ _ _ S1 (hq p m0) pins _ I1) fun us s1 ⟨ls, H1, M1, I2, e1, d1, hp1, hm, kvs, hls, hk, hz, q⟩ => ?_
  subst hls
  obtain ⟨xs, c, hr⟩ := carriesN I2 hp1 hk
  obtain ⟨xs0, h1, _, _, _, hpp, hdict⟩ := dn_at I2 d1 hm
  have x0 : xs0 = [] := by cases hpp; rfl
  subst x0
  refine ⟨xs, c, by rw [← hp]; exact hdict, fun h' tk hx' sb => ?_⟩
  rw [← hp] at hx' sb ⊢
  have hlen := nPuts_len kvs []
  rw [List.length_nil] at hlen
  obtain ⟨J, X2, D2⟩ := dn_put (t' := tk) (kvs' := nPuts [] kvs) I2 d1 hm hx' sb (by rw [sizeLine_eq]; omega) (nPuts_nodup kvs [] (by simp)) (rn_puts hr .nil)
  exact wpAny_pure ⟨.ref p, _, J, rfl, .ref p, _, (X1.trans e1).trans X2, D2, rfl, q⟩
/-- {k: v, ..}, keys texts -/
def tSDisL (t : TPd) : TEd := fun σ M Q => ∀ p, M p = none → t σ (mset M p (.dK (skv []))) fun ls M2 => M2 p = some (.dK (skv [])) ∧
  ∃ kvs : List (Str × W), ls = kvs.map (fun q => (W.d (.str q.1), q.2)) ∧ kvs.length ≤ 15 ∧ Q (.ref p) (mset M2 p (.dK (skv (sPuts [] kvs))))
theorem carriesS {P : Program} {w : World} {K : PySem.W.Frag} {H : Hp} {M : MH} : ∀ {us : List (Value × Value)} {kvs : List (Str × W)}, Paired (RP K H M) us (kvs.map fun q => (W.d (.str q.1), q.2)) → ∃ (rs : List (Key × Value)) (ks : List (Key × V)), Carries (mixKind P w) us rs ∧ KV ks rs ∧ WvK K H M ks (skv kvs)
  | _, [], h => by cases h; exact ⟨[], [], trivial, .nil, .nil⟩
  | _, q :: r, h => by
    rw [List.map_cons] at h
    cases h with
    | @cons u _ us _ h1 h2 =>
      obtain ⟨u1, u2⟩ := u
      obtain ⟨rs, ks, c, hk, hw⟩ := carriesS (P := P) (w := w) h2
      obtain ⟨v1, v2, r1, r2, w1, w2⟩ := h1
      have w1' : Fz K H M v1 (.str q.1) := w1
      cases w1'
      have r1' : RelV (kV (.inr q.1)) u1 := r1
      exact ⟨(.inr q.1, u2) :: rs, (.inr q.1, v2) :: ks, ⟨kV_is r1', rfl, c⟩, .cons ⟨rfl, r2⟩ hk, .cons ⟨rfl, w2⟩ hw⟩
theorem q_sdisL (F : Fm g i k Y) {keys : List (Option Expr)} {values : List Expr} {t : TPd} (h : QP Y pos keys values t) (hall : keys.all (·.isSome) = true := by rfl) (hl : keys.length = values.length := by rfl) (h0 : keys ≠ [] := by simp) (h15 : keys.length ≤ 15 := by decide) :
    QE Y (.Dict keys values pos) (tSDisL t) := by
  refine ⟨fun s H σ M Q S hq pins sh I => ?_⟩
  obtain ⟨p, hp⟩ : ∃ p, p = sh.heap.objs.size := ⟨_, rfl⟩
  have n0 : H p = none := by rw [hp]; exact I.hok.fresh (Nat.le_refl _)
  have m0 := S.d.free n0
  have X1 : Ext H M (upd H p (.dK [])) (mset M p (.dK (skv []))) := ext_mut (.inr n0)
  have D1 : Dok Y.X.K (upd H p (.dK [])) (mset M p (.dK (skv []))) := dok_mut (u := .dK (skv [])) S.d (.inr n0) fun e => ⟨[], upd_same, .nil⟩
  have I1 : Inv Y.X pins s (upd H p (.dK [])) { sh with heap := sh.heap.push { cls := .type "dict", data := .dict #[] } } := by
    rw [hp]
    exact I.laid (a := sh.heap.objs.size) (o := .dK []) (h' := sh.heap.push { cls := .type "dict", data := .dict #[] }) (t' := sh.toks) (fun _ _ q => Heap.get?_push_of_some _ q) (Nat.le_refl _) (dk_empty sh.heap I.big)
  refine wpAny_Dict_walk (knd := mixKind Y.X.prog Y.X.w) hall hl h0 h15 ?_
  refine thn (h.run s _ σ _ _ (S.go X1 D1) (hq p m0) pins _ I1) fun us s1 ⟨ls, H1, M1, I2, e1, d1, hp1, hm, kvs, hls, hz, q⟩ => ?_
  subst hls
  obtain ⟨rs, ks, c, hk, hw⟩ := carriesS (P := Y.X.prog) (w := Y.X.w) hp1
  obtain ⟨vs, h1, h2⟩ := d1 _ _ hm
  have v0 : vs = [] := by cases h2; rfl
  subst v0
  obtain ⟨z, hd, vs0, r0, dd⟩ := dk_of I2.hok h1
  cases r0
  refine ⟨rs, c, by rw [← hp]; exact dd, fun h' dd' hs => ?_⟩
  rw [← hp] at dd' hs ⊢
  have nn : M1 p ≠ none := by rw [hm]; exact fun z => by cases z
  have X2 : Ext H1 M1 (upd H1 p (.dK (mergeK [] ks))) (mset M1 p (.dK (skv (sPuts [] kvs)))) := ext_mut (.inl nn)
  have D2 := dok_mut (u := .dK (skv (sPuts [] kvs))) (o := .dK (mergeK [] ks)) d1 (.inl nn) fun e => ⟨_, upd_same, WvK.ext e (skv_merge hw .nil)⟩
  have hz2 : (mergeK [] ks).length ≤ sizeLine := by
    have h1 := length_mergeK ks []
    have h2 : ks.length = kvs.length := by rw [Paired.length hw]; unfold skv; rw [List.length_map]
    rw [List.length_nil] at h1
    rw [sizeLine_eq]; omega
  have he : ∃ q, h'.get? p = some q := let ⟨q, _, _, hq, _⟩ := dd'; ⟨q, hq⟩
  exact ⟨.ref p, _, d_write I2 (by rw [h1]; exact True.intro) hs he (dk_new hz2 hd (hk.merge .nil) dd'), rfl, .ref p, _, (X1.trans e1).trans X2, D2, rfl, q⟩
end
end Dl
set_option Elab.async false
set_option linter.all false
set_option maxRecDepth 100000
/-! defs with defaults, calls with keywords -/
namespace Dl
open PySem PySem.Spec PyProof.Rows L2
theorem fng_atD {g : Gc} {i : Si} {k : Nat} {x qual : Str} {st : Stmt} {dvs : List V} {f : Addr} {fd : FuncData} {ps : List Str} (F : FunD g.K x qual (defArgs st) (defBody st) (defScope st) dvs [] f fd) (Sc : FnScope i.N ps (defScope st)) (ok : ScOk i (defScope st)) (hsy : SysOk g.base)
    {A : Around} {outer : List Env} {s : Shared} {H : Hp} {args : Args} {us : List Value} {vs : List V} {Q : VK} {E : XK} (hgd : A.guards = some []) (hh : i.hot = false → A.handled = none) (hr : RmH (k + 1) A) (e0 : Env0 g.P g.w g.K g.mg g.base A outer s H) (hb : BindsTo s fd args (ps.zip us)) (rv : Vals vs us)
    {ws : List W} {M : MH} {Qd : W → MH → Prop} {Ed : XD} (hD : Dok g.K H M) (hw : WvA g.K H M vs ws) (lw : ws.length = ps.length)
    (kQ : ∀ v H' w M', Ext H M H' M' → Dok g.K H' M' → Wv g.K H' M' v w → Qd w M' → Q v H')
    (kE : ∀ cls d H' fs M', Ext H M H' M' → Dok g.K H' M' → XFs g.K H' M' d fs → Ed cls fs M' → E cls d H')
    (body : ∀ Y : Dx, Fm g i k Y → Y.wd = (fun cls fs _ M' => Ed cls fs M') → CtxAt Y outer s H M → Y.X.env.code = fd.code → Y.X.env.qual = qual ++ ".<locals>." → ∃ t, QSs Y (defBody st) t ∧ t { nx := fun _ M' => Qd (.d .none) M', rt := Qd } (startD i.N ws) M) :
    codeAny (model g.P g.w) A (.call (.ref f) args) (CR (L2.CX g.P g.w) outer g.P g.w H s Q E) s := by
  obtain ⟨oc, od, dV, kV, doc, pm, an, cdv, ct, osl, rfl, lk, hcd, _, _⟩ := F.ex
  have lv : vs.length = ps.length := (Paired.length hw).trans lw
  have KX : g.K.In s.heap := e0.mod.kin.keeps fun b o z => (e0.bs b o z).1
  have nolim : s.heap.NoLimit := e0.mod.nolimit.keeps fun b o z => (e0.bs b o z).1
  have kinds : ∀ y ∈ ps.zip us, (defScope st).names.lookup y.1 = some .local ∨ ((defScope st).names.lookup y.1 = some .cell ∧ ((cellsFrom (s.heap.objs.size + 1) (defScope st).names []).lookup y.1).isSome = true) := by
    rintro ⟨n, u⟩ hy
    have hn := (List.of_mem_zip hy).1
    rcases Sc.par n hn with z | z
    · exact Or.inl z
    · exact Or.inr ⟨z, PySem.W.cellsFrom_some _ _ _ (Or.inl z)⟩
  refine codeAny_call_function hr.depth (KX _ _ lk) rfl Sc.co Sc.gen rfl (PySem.W.codeRec_of KX hcd) ?_
  refine hb _ _ _ _ ?_
  refine wpAny_newFunctionEnv_cells Sc.kind kinds fun env henv s1 inC => ?_
  subst henv
  refine ⟨nolim.keeps inC.toInCall.keep, ?_⟩
  refine codeAny_func ?_
  obtain ⟨X, hX⟩ : ∃ X : Cx, X = { cxOf (L2.CX g.P g.w) g.P g.w g.K g.mg g.base i.N qual (defScope st) f cdv A outer s H E with calm := !i.hot } := ⟨_, rfl⟩
  have I : Inv X [] (start i.N vs) H s1 := by
    subst hX
    have e1 : Env0 g.P g.w g.K g.mg g.base { A with handled := none } outer s H := ⟨e0.frames, e0.mod, e0.bs, e0.bsz, e0.funs, e0.frf, e0.hok, e0.bare⟩
    have J := inv_start (CX := L2.CX g.P g.w) (E := E) Sc (A := { A with handled := none }) rfl e1 lv rv inC
    have o := J.ok
    exact ⟨⟨o.mod, o.kind, o.glob, o.blt, o.above, o.inj, o.has, o.cab, (fun z => hh (by simpa using z)), Around.frames_deeper e0.frames, o.stk, o.exf, o.bs, o.bsz, o.noex, o.exfs, o.funs, o.frf⟩, J.os, J.bare, J.base, J.loc, J.cell, J.free, J.freeC, J.pin, J.hok, J.len⟩
  obtain ⟨Y, hY⟩ : ∃ Y : Dx, Y = { X := X, H0 := H, M0 := M, wd := fun cls fs _ M' => Ed cls fs M' } := ⟨_, rfl⟩
  have hXK : X.K = g.K := by subst hX; rfl
  have hYX : Y.X = X := by rw [hY]
  have Fmm : Fm g i k Y := by
    subst hY
    subst hX
    refine ⟨rfl, rfl, rfl, rfl, rfl, rfl, ok.e.symm, Sc.nd, (fun z => by show (!i.hot) = true; rw [z]; rfl), hh, hgd, hr.deeper _, (fun _ => ⟨rfl, rfl⟩), vis_of ok.v, kind_of ok.l, fun j x h1 h2 => ⟨kind_of ok.c j x h1 h2, rfl⟩, glo_of ok.g, hsy, ?_, ?_⟩
    · refine (takes_of (E := E) rfl rfl rfl rfl).imp fun cls d s' H' ⟨σ', M', fs, S', xf, w⟩ => ?_
      exact kE cls d H' fs M' S'.e S'.d xf w
    · exact passes_of rfl
  obtain ⟨t, ht, hq⟩ := body Y Fmm (by rw [hY]) (by subst hY; subst hX; exact ⟨rfl, rfl, rfl, rfl, .refl _ _⟩) (by subst hY; subst hX; rfl) (by subst hY; subst hX; rfl)
  have hD' : Dok X.K H M := by rw [hXK]; exact hD
  have hw' : WvA X.K H M vs ws := by rw [hXK]; exact hw
  have St0 : Std Y (start i.N vs) H (startD i.N ws) M := by
    subst hY
    refine ⟨.refl _ _, hD', ?_⟩
    unfold L2.start startD
    rw [Paired.length hw]
    exact slots_start _ hw'
  have run := ht.run _ _ _ _ _ St0 hq [] s1 (by rw [hYX]; exact I)
  rw [hYX] at run
  have fin : ∀ {σ' : L2.St} {H' : Hp} {v : V} {u : Value} {s' : Shared}, Inv X [] σ' H' s' → RelV v u → up Y H M Qd v H' → CE outer g.P g.w H s Q u s' := by
    intro σ' H' v u s' J rv ⟨w, M', e1, d1, r1, q1⟩
    rw [hYX, hXK] at d1 r1
    have q2 := kQ v H' w M' e1 d1 r1 q1
    subst hX
    exact ⟨v, H', J.os, J.bare, J.base, J.hok, rv, q2⟩
  subst hX
  refine wpAny_mono run (fun fl s' hs => ?_) fun e s' hs => hs
  cases fl with
  | next =>
    obtain ⟨σ', H', J, σd, M', e1, S1, q⟩ := hs
    exact fin (v := V.non) (u := Value.none) J rfl ⟨_, M', e1, S1.d, wNone, q⟩
  | ret u =>
    obtain ⟨v, σ', H', J, rv, q⟩ := hs
    exact fin J rv q
  | brk => obtain ⟨_, _, _, _, _, _, _, q⟩ := hs; exact q.elim
  | cont => obtain ⟨_, _, _, _, _, _, _, q⟩ := hs; exact q.elim
theorem fng_ofD {g : Gc} {i : Si} {k : Nat} {x qual : Str} {st : Stmt} {dvs : List V} {f : Addr} {fd : FuncData} {ps : List Str} {sp : SpD} (F : FunD g.K x qual (defArgs st) (defBody st) (defScope st) dvs [] f fd) (Sc : FnScope i.N ps (defScope st)) (ok : ScOk i (defScope st)) (hsy : SysOk g.base)
    (len : ∀ ws M Q E, sp ws M Q E → ws.length = ps.length)
    (body : ∀ (Y : Dx) (ws : List W) (M : MH) (Q : W → MH → Prop) (E : XD), Fm g i k Y → Y.wd = (fun cls fs _ M' => E cls fs M') → sp ws M Q E → ∃ t, QSs Y (defBody st) t ∧ t { nx := fun _ M' => Q (.d .none) M', rt := Q } (startD i.N ws) M) :
    FnG g (k + 1) f fd ps sp i.hot := by
  refine ⟨len, fun A outer s H args us vs Q E hgd hh hr e0 hb rv hlift => ?_⟩
  obtain ⟨ws, M, Qd, Ed, hD, hw, hsp, kQ, kE⟩ := hlift
  exact fng_atD F Sc ok hsy hgd hh hr e0 hb rv hD hw (len _ _ _ _ hsp) kQ kE fun Y F' hw' _ _ _ => body Y ws M Qd Ed F' hw' hsp
/-- a def of the text with defaults -/
structure PlD (g : Gc) (x : Str) (st : Stmt) (dvs : List PyData) : Prop where
  ex : ∃ f fd vs, FunD g.K x x (defArgs st) (defBody st) (defScope st) vs [] f fd ∧ vs ≠ [] ∧ g.mg x = some (.ref f) ∧ ∀ H M, FzA g.K H M vs dvs
/-- .. for its callers -/
structure DfD (g : Gc) (k : Nat) (x : Str) (st : Stmt) (ps : List Str) (sp : SpD) (dvs : List PyData) (hot : Bool := false) : Prop where
  ex : ∃ f fd vs, FnG g k f fd ps sp hot ∧ FunD g.K x x (defArgs st) (defBody st) (defScope st) vs [] f fd ∧ vs ≠ [] ∧ g.mg x = some (.ref f) ∧ ∀ H M, FzA g.K H M vs dvs
theorem df_ofD {g : Gc} {i : Si} {k : Nat} {x : Str} {st : Stmt} {ps : List Str} {sp : SpD} {dvs : List PyData} (P : PlD g x st dvs) (hsy : SysOk g.base) (Sc : FnScope i.N ps (defScope st)) (ok : ScOk i (defScope st))
    (len : ∀ ws M Q E, sp ws M Q E → ws.length = ps.length)
    (body : ∀ (Y : Dx) (ws : List W) (M : MH) (Q : W → MH → Prop) (E : XD), Fm g i k Y → Y.wd = (fun cls fs _ M' => E cls fs M') → sp ws M Q E → ∃ t, QSs Y (defBody st) t ∧ t { nx := fun _ M' => Q (.d .none) M', rt := Q } (startD i.N ws) M) : DfD g (k + 1) x st ps sp dvs i.hot := by
  obtain ⟨f, fd, vs, F, hv, m, fz⟩ := P.ex
  exact ⟨f, fd, vs, fng_ofD F Sc ok hsy len body, F, hv, m, fz⟩
/-! ### what stands where -/
/-- the parameters behind the written ones: false: a default, true: a keyword's value, by its place -/
def arr {α : Type} (sl : List (Bool × Nat)) (us its ws : List α) : List α := us ++ sl.flatMap fun q => ((bif q.1 then ws else its).drop q.2).take 1
theorem paired_app {α β : Type} {R : α → β → Prop} : ∀ {a : List α} {b : List β} {c : List α} {d : List β}, Paired R a b → Paired R c d → Paired R (a ++ c) (b ++ d)
  | _, _, _, _, .nil, h => h
  | _, _, _, _, .cons r t, h => .cons r (paired_app t h)
theorem paired_take {α β : Type} {R : α → β → Prop} : ∀ (n : Nat) {a : List α} {b : List β}, Paired R a b → Paired R (a.take n) (b.take n)
  | 0, _, _, _ => .nil
  | _ + 1, _, _, .nil => .nil
  | n + 1, _, _, .cons r t => .cons r (paired_take n t)
theorem paired_drop {α β : Type} {R : α → β → Prop} : ∀ (n : Nat) {a : List α} {b : List β}, Paired R a b → Paired R (a.drop n) (b.drop n)
  | 0, _, _, h => h
  | _ + 1, _, _, .nil => .nil
  | n + 1, _, _, .cons r t => paired_drop n t
theorem arr_rel {α β : Type} {R : α → β → Prop} : ∀ (sl : List (Bool × Nat)) {a b c : List α} {a' b' c' : List β}, Paired R a a' → Paired R b b' → Paired R c c' → Paired R (arr sl a b c) (arr sl a' b' c')
  | [], a, b, c, a', b', c', h1, _, _ => by
    unfold arr
    rw [List.flatMap_nil, List.flatMap_nil, List.append_nil, List.append_nil]
    exact h1
  | (x, n) :: sl, a, b, c, a', b', c', h1, h2, h3 => by
    have z : Paired R (((bif x then c else b).drop n).take 1) (((bif x then c' else b').drop n).take 1) := by
      cases x
      · exact paired_take 1 (paired_drop n h2)
      · exact paired_take 1 (paired_drop n h3)
    have e : ∀ {γ : Type} (u v w : List γ), arr ((x, n) :: sl) u v w = arr sl (u ++ ((bif x then w else v).drop n).take 1) v w := by
      intro γ u v w
      unfold arr
      rw [List.flatMap_cons, List.append_assoc]
    rw [e, e]
    exact arr_rel sl (paired_app h1 z) h2 h3
theorem FzA.pair {K : PySem.W.Frag} {H : Hp} {M : MH} : ∀ {vs : List V} {ds : List PyData}, FzA K H M vs ds → WvA K H M vs (ds.map W.d)
  | _, _, .nil => .nil
  | _, _, .cons h t => .cons h t.pair
section
variable {g : Gc} {i : Si} {k : Nat} {Y : Dx}
structure QK (Y : Dx) (kws : List Keyword) (t : TAd) : Prop where
  run : ∀ (pos : Pos) s H σ M Q, Std Y s H σ M → t σ M Q → ∀ pins sh, Inv Y.X pins s H sh → wpAny (model Y.X.prog Y.X.w) Y.X.A (evalAll ((backToKw pos (keywordEach kws Y.X.env)).map (·.2))) (AP Y.X pins s (upA Y H M Q)) Y.X.xe sh
theorem qk_nil : QK Y [] tNilA := ⟨fun _ s H σ M Q S h pins sh I => wpAny_evalAll_nil ⟨[], H, I, .nil, [], M, .refl _ _, S.d, .nil, h⟩⟩
theorem qk_cons {e : Expr} {kws : List Keyword} {nm : Option Str} {kpos : Pos} {te : TEd} {t : TAd} (ha : QE Y e te) (hr : QK Y kws t) : QK Y (⟨nm, e, kpos⟩ :: kws) (tConsA te t) := by
  refine ⟨fun pos s H σ M Q S h pins sh I => ?_⟩
  show wpAny _ _ (evalAll ((do let v ← eval e Y.X.env; standAt pos; pure v) :: (backToKw pos (keywordEach kws Y.X.env)).map (·.2))) _ _ sh
  refine wpAny_evalAll_cons (wpAny_bind (thn (ha.run s H σ M _ S h pins sh I) fun u s1 ⟨x, H1, I1, r1, w1, M1, e1, d1, rw1, q1⟩ => wpAny_bind (wpAny_standAt (wpAny_pure ?_))))
  exact thn (hr.run pos s H1 σ M1 _ (S.go e1 d1) q1 pins s1 I1) fun us s2 ⟨xs, H2, I2, r2, ws, M2, e2, d2, rw2, q2⟩ => ⟨x :: xs, H2, I2, .cons r1 r2, w1 :: ws, M2, e1.trans e2, d2, .cons (rw1.ext e2) rw2, q2⟩
def tFnD (sp : SpD) (wd : Value → XF → SD → MH → Prop) (dvs : List PyData) (n m : Nat) (sl : List (Bool × Nat)) (t tk : TAd) : TEd := fun σ M Q => t σ M fun ws M1 => tk σ M1 fun zs M2 => ws.length = n ∧ zs.length = m ∧ sp (arr sl ws (dvs.map W.d) zs) M2 Q (fun cls fs M' => wd cls fs σ M')
/-- how the call binds -/
def BindD (x : Str) (st : Stmt) (ps : List Str) (n m : Nat) (ks : List Str) (sl : List (Bool × Nat)) : Prop :=
  ∀ (T : Addr) (kV doc pm : Value) (an : Option Addr) (cdv ct : Value) (us its ws : List Value), us.length = n → its.length = m → ws.length = ks.length →
    (∃ k, bindArgs (PySem.W.fnOf x x (defArgs st) (defBody st) (defScope st) (.ref T) kV doc pm an cdv ct) ⟨us, ks.zip ws⟩ = seqItems? (.ref T) >>= k ∧ k (some its.toArray) = pure (ps.zip (arr sl us its ws)))
theorem q_callD {wd : Value → XF → SD → MH → Prop} (hw : Y.wd = wd) (F : Fm g i k Y) (j : Nat) {m n : Nat} {x : Str} {st : Stmt} {ps ks : List Str} {sp : SpD} {dvs : List PyData} {sl : List (Bool × Nat)} {e : Expr} {es : List Expr} {kws : List Keyword} {t tk : TAd} {p pos : Pos} {hot : Bool}
    (D : DfD g m x st ps sp dvs hot) (hb : BindD x st ps n dvs.length ks sl) (ha : QA Y (e :: es) t) (hkw : QK Y kws tk) (hm : m ≤ k := by first | exact Nat.le_refl _ | decide | omega) (hj : i.gls[j]? = some x := by rfl) (hh : hot = true ∨ i.hot = false := by first | exact .inr rfl | exact .inl rfl)
    (hall : (backToKw pos (keywordEach kws Y.X.env)).all (·.1.isSome) = true := by rfl) (hks : (backToKw pos (keywordEach kws Y.X.env)).filterMap (·.1) = ks := by rfl)
    (he : starEach (e :: es) Y.X.env = (false, eval e Y.X.env) :: starEach es Y.X.env := by rfl)
    (hpl : ((backTo pos (starEach (e :: es) Y.X.env)).any (·.1) || (backToKw pos (keywordEach kws Y.X.env)).any (·.1.isNone)) = false := by rfl) : QE Y (.Call (.Name x p) (e :: es) kws pos) (tFnD sp wd dvs n ks.length sl t tk) := by
  subst hw
  obtain ⟨h1, h2, h3⟩ := F.glo j x hj
  obtain ⟨f, fd, dv, FD, FF, hv, mgf, fz⟩ := D.ex
  have kp := FF.kp
  refine ⟨fun s H σ M Q S h pins sh I => ?_⟩
  refine wpAny_Call_Name_kw (ld_glob I h1 (by rw [F.hmg]; exact mgf) ?_ h2)
  refine PySem.W.callWith_KW (h₀ := Y.X.base) I.ok.mod.kin (by rw [F.hK]; exact kp) hall (thn ((ha.run s H σ M _ S h) pos pins sh I) fun us s1 ⟨vs, H1, I1, r, ws, M1, e1, d1, r1, q1⟩ => ?_) hpl he
  have S1 := S.go e1 d1
  refine thn (hkw.run pos s H1 σ M1 _ S1 q1 pins s1 I1) fun uz s2 ⟨zs, H2, I2, rz, wz, M2, e2, d2, r2, l1, l2, q2⟩ => ⟨I2.kIn, ?_⟩
  rw [hks]
  have S2 := S1.go e2 d2
  obtain ⟨oc, od, dV, kV, doc, pm, an, cdv, ct, osl, efd, lk, hcd, hD, _⟩ := FF.ex
  rcases hD with ⟨e, _⟩ | ⟨_, T, o, its, nn, rfl, lT, oT, rT⟩
  · exact absurd e hv
  have fzh := fz H2 M2
  have ld : dv.length = dvs.length := by rw [Paired.length fzh.pair, List.length_map]
  have k1 : us.length = n := by rw [← r.length, Paired.length r1, l1]
  have k2 : its.length = dvs.length := by rw [← rT.length, ld]
  have k3 : uz.length = ks.length := by rw [← rz.length, Paired.length r2, l2]
  obtain ⟨kk, b1, b2⟩ := hb T kV doc pm an cdv ct us its uz k1 k2 k3
  have kin : g.K.In s2.heap := by rw [← F.hK]; exact I2.kIn
  have bd : BindsTo s2 fd ⟨us, ks.zip uz⟩ (ps.zip (arr sl us its uz)) := by
    rw [efd]
    refine BindsTo.of_looks fun M => ?_
    rw [b1]
    exact looks_items kin lT oT (.of_pure b2)
  have e0 : Env0 g.P g.w g.K g.mg g.base Y.X.A Y.X.stack s2 H2 := by rw [← F.hP, ← F.hw, ← F.hK, ← F.hmg, ← F.hb]; exact I2.env0
  have rv : Vals (arr sl vs dv zs) (arr sl us its uz) := arr_rel sl r rT rz
  have rw' : WvA g.K H2 M2 (arr sl vs dv zs) (arr sl ws (dvs.map W.d) wz) := by
    have := arr_rel (R := Wv g.K H2 M2) sl (by rw [← F.hK]; exact WvA.ext e2 r1) fzh.pair (by rw [← F.hK]; exact r2)
    exact this
  have hl : lift g.K sp (arr sl vs dv zs) H2 (up Y H M Q) (fun cls d H' => upX Y Y.wd cls d s H') := by
    refine ⟨_, M2, Q, _, by rw [← F.hK]; exact d2, rw', q2, fun v H' w M' e d r q => ⟨w, M', (e1.trans e2).trans e, by rw [F.hK]; exact d, by rw [F.hK]; exact r, q⟩, fun cls d H' fs M' e dk xf w => ?_⟩
    exact ⟨σ, M', fs, S2.go e (by rw [F.hK]; exact dk), by rw [F.hK]; exact xf, w⟩
  have z := FD.run Y.X.A Y.X.stack s2 H2 ⟨us, ks.zip uz⟩ (arr sl us its uz) (arr sl vs dv zs) _ _ F.gd (fun z => by rcases hh with h | h; (rw [h] at z; cases z); exact F.hd h) (F.room.mono hm) e0 bd rv hl
  rw [F.hP, F.hw]
  refine wpAny_call (codeAny_mono z fun res s' hq => ?_)
  rw [← F.hP, ← F.hw] at hq
  cases res with
  | error e => exact passAt F.tk s pins H2 s2 e s' I2 hq
  | ok fl =>
    cases fl with
    | ret u => exact I2.after hq
    | next => exact (show False from hq).elim
    | brk => exact (show False from hq).elim
    | cont => exact (show False from hq).elim
end
/-! ### the defaults, looked at -/
def chkDs (K : PySem.W.Frag) : List Value → List PyData → Bool
  | [], [] => true
  | v :: vs, d :: ds => chkD K 60 v d && chkDs K vs ds
  | _, _ => false
theorem chkDs_ok {K : PySem.W.Frag} : ∀ (l : List Value) (ds : List PyData), chkDs K l ds = true → ∃ vs, Vals vs l ∧ ∀ H M, FzA K H M vs ds
  | [], [], _ => ⟨[], .nil, fun _ _ => .nil⟩
  | v :: vs, d :: ds, h => by
    simp only [chkDs, Bool.and_eq_true] at h
    obtain ⟨v', r, fz⟩ := chkD_ok K 60 v d h.1
    obtain ⟨vs', rs, fs⟩ := chkDs_ok vs ds h.2
    exact ⟨v' :: vs', .cons r rs, fun H M => .cons (fz H M) (fs H M)⟩
  | [], _ :: _, h => by cases h
  | _ :: _, [], h => by cases h
theorem pld_of {g : Gc} {x : Str} {st : Stmt} {f T : Addr} {dvs : List PyData} {oc : Value} {od : Option Addr} {kV doc pm : Value} {an : Option Addr} {cdv ct : Value} {osl : Array (Option Value)} {o : Obj} {its : Array Value} {n : Nat} (m : g.mg x = some (.ref f))
    (lk : g.K.lookup f = some ⟨oc, od, .func (PySem.W.fnOf x x (defArgs st) (defBody st) (defScope st) (.ref T) kV doc pm an cdv ct), osl⟩) (hc : PySem.W.codeIn g.K cdv x = true) (kp : PySem.W.keepIn g.K (.ref f) = true)
    (lT : g.K.lookup T = some o) (oT : o.data = .seq its n) (c : chkDs g.K its.toList dvs = true) (ne : dvs ≠ []) : PlD g x st dvs := by
  obtain ⟨vs, r, fz⟩ := chkDs_ok its.toList dvs c
  refine ⟨f, _, vs, ⟨⟨oc, od, .ref T, kV, doc, pm, an, cdv, ct, osl, rfl, lk, hc, .inr ⟨fun e => ?_, T, o, its.toList, n, rfl, lT, by simpa using oT, r⟩, .inl rfl⟩, kp⟩, fun e => ?_, m, fz⟩
  · subst e
    have := Paired.length (fz noH (fun _ => none)).pair
    simp at this
    exact ne (List.length_eq_zero_iff.mp this.symm)
  · subst e
    have := Paired.length (fz noH (fun _ => none)).pair
    simp at this
    exact ne (List.length_eq_zero_iff.mp this.symm)
end Dl
set_option Elab.async false
set_option linter.all false
set_option maxRecDepth 100000
namespace Ms
open PySem PySem.Spec PyProof.Rows L2 Dl
def topS (i : Nat) : Stmt := PySem.Challenge.pw_askround_k07_what_holds.main.body.getD i (.Pass ⟨0, 0, 0, 0⟩)
def k_MOST_NUMBER : PyData := .int (1000000)
def k_WORDS : PyData := .tuple [(.str "ask"), (.str "pick"), (.str "some"), (.str "count"), (.str "if"), (.str "else"), (.str "end"), (.str "part"), (.str "leave"), (.str "each"), (.str "hard"), (.str "soft"), (.str "is"), (.str "has"), (.str "from"), (.str "to"), (.str "not"), (.str "and"), (.str "or"), (.str "any"), (.str "every")]
def k_MOST_LETTERS : PyData := .int (8)
def k_LETTERS : PyData := .str "abcdefghijklmnopqrstuvwxyz"
def k_MOST_PARTS : PyData := .int (6)
def k_MOST_DEEP : PyData := .int (6)
def k_MOST_PIECES : PyData := .int (30)
abbrev s_is_whole : Stmt := topS 35
def i_is_whole : Si := ⟨defScope s_is_whole, ["thing"], [0], [0], [], ["isinstance", "int", "bool"], false, false⟩
theorem sc_is_whole : FnScope i_is_whole.N ["thing"] (defScope s_is_whole) := ⟨rfl, rfl, rfl, by decide +kernel, rfl, by decide +kernel, by decide +kernel⟩
theorem ok_is_whole : ScOk i_is_whole (defScope s_is_whole) := ⟨rfl, by decide +kernel, by decide +kernel, by decide +kernel, by decide +kernel⟩
abbrev s_is_within : Stmt := topS 36
def i_is_within : Si := ⟨defScope s_is_within, ["thing", "low", "high"], [0, 1, 2], [0, 1, 2], [], ["is_whole"], false, false⟩
theorem sc_is_within : FnScope i_is_within.N ["thing", "low", "high"] (defScope s_is_within) := ⟨rfl, rfl, rfl, by decide +kernel, rfl, by decide +kernel, by decide +kernel⟩
theorem ok_is_within : ScOk i_is_within (defScope s_is_within) := ⟨rfl, by decide +kernel, by decide +kernel, by decide +kernel, by decide +kernel⟩
abbrev s_is_number : Stmt := topS 37
def i_is_number : Si := ⟨defScope s_is_number, ["thing"], [0], [0], [], ["is_within", "MOST_NUMBER"], false, false⟩
theorem sc_is_number : FnScope i_is_number.N ["thing"] (defScope s_is_number) := ⟨rfl, rfl, rfl, by decide +kernel, rfl, by decide +kernel, by decide +kernel⟩
theorem ok_is_number : ScOk i_is_number (defScope s_is_number) := ⟨rfl, by decide +kernel, by decide +kernel, by decide +kernel, by decide +kernel⟩
abbrev s_is_name : Stmt := topS 38
def i_is_name : Si := ⟨defScope s_is_name, ["thing", "sign"], [0], [0], [], ["all", "WORDS", "isinstance", "str", "MOST_LETTERS", "len"], false, false⟩
theorem sc_is_name : FnScope i_is_name.N ["thing"] (defScope s_is_name) := ⟨rfl, rfl, rfl, by decide +kernel, rfl, by decide +kernel, by decide +kernel⟩
theorem ok_is_name : ScOk i_is_name (defScope s_is_name) := ⟨rfl, by decide +kernel, by decide +kernel, by decide +kernel, by decide +kernel⟩
abbrev s_holds_is : Stmt := topS 43
def i_holds_is : Si := ⟨defScope s_holds_is, ["value", "sought"], [0, 1], [0, 1], [], ["isinstance", "str"], false, false⟩
theorem sc_holds_is : FnScope i_holds_is.N ["value", "sought"] (defScope s_holds_is) := ⟨rfl, rfl, rfl, by decide +kernel, rfl, by decide +kernel, by decide +kernel⟩
theorem ok_holds_is : ScOk i_holds_is (defScope s_holds_is) := ⟨rfl, by decide +kernel, by decide +kernel, by decide +kernel, by decide +kernel⟩
abbrev s_holds_has : Stmt := topS 44
def i_holds_has : Si := ⟨defScope s_holds_has, ["value", "sought"], [0, 1], [0, 1], [], ["isinstance", "tuple"], false, false⟩
theorem sc_holds_has : FnScope i_holds_has.N ["value", "sought"] (defScope s_holds_has) := ⟨rfl, rfl, rfl, by decide +kernel, rfl, by decide +kernel, by decide +kernel⟩
theorem ok_holds_has : ScOk i_holds_has (defScope s_holds_has) := ⟨rfl, by decide +kernel, by decide +kernel, by decide +kernel, by decide +kernel⟩
abbrev s_holds_from : Stmt := topS 45
def i_holds_from : Si := ⟨defScope s_holds_from, ["value", "least"], [0, 1], [0, 1], [], ["is_whole"], false, false⟩
theorem sc_holds_from : FnScope i_holds_from.N ["value", "least"] (defScope s_holds_from) := ⟨rfl, rfl, rfl, by decide +kernel, rfl, by decide +kernel, by decide +kernel⟩
theorem ok_holds_from : ScOk i_holds_from (defScope s_holds_from) := ⟨rfl, by decide +kernel, by decide +kernel, by decide +kernel, by decide +kernel⟩
abbrev s_holds_to : Stmt := topS 46
def i_holds_to : Si := ⟨defScope s_holds_to, ["value", "most"], [0, 1], [0, 1], [], ["is_whole"], false, false⟩
theorem sc_holds_to : FnScope i_holds_to.N ["value", "most"] (defScope s_holds_to) := ⟨rfl, rfl, rfl, by decide +kernel, rfl, by decide +kernel, by decide +kernel⟩
theorem ok_holds_to : ScOk i_holds_to (defScope s_holds_to) := ⟨rfl, by decide +kernel, by decide +kernel, by decide +kernel, by decide +kernel⟩
abbrev s_is_piece : Stmt := topS 48
def i_is_piece : Si := ⟨defScope s_is_piece, ["thing"], [0], [0], [], ["is_number", "PIECES", "is_name", "len"], false, false⟩
theorem sc_is_piece : FnScope i_is_piece.N ["thing"] (defScope s_is_piece) := ⟨rfl, rfl, rfl, by decide +kernel, rfl, by decide +kernel, by decide +kernel⟩
theorem ok_is_piece : ScOk i_is_piece (defScope s_is_piece) := ⟨rfl, by decide +kernel, by decide +kernel, by decide +kernel, by decide +kernel⟩
abbrev s_pieces_of_parts : Stmt := topS 49
def i_pieces_of_parts : Si := ⟨defScope s_pieces_of_parts, ["parts", "deep", "within", "found", "part"], [0, 1, 2, 3], [0, 3], [1, 2], ["sum", "isinstance", "tuple", "MOST_PARTS", "len"], false, false⟩
theorem sc_pieces_of_parts : FnScope i_pieces_of_parts.N ["parts", "deep", "within"] (defScope s_pieces_of_parts) := ⟨rfl, rfl, rfl, by decide +kernel, rfl, by decide +kernel, by decide +kernel⟩
theorem ok_pieces_of_parts : ScOk i_pieces_of_parts (defScope s_pieces_of_parts) := ⟨rfl, by decide +kernel, by decide +kernel, by decide +kernel, by decide +kernel⟩
abbrev s_pieces_in : Stmt := topS 50
def i_pieces_in : Si := ⟨defScope s_pieces_in, ["thing", "deep", "within"], [0, 1, 2], [0, 1, 2], [], ["is_piece", "pieces_in", "pieces_of_parts", "is_name", "isinstance", "tuple", "str", "len"], false, false⟩
theorem sc_pieces_in : FnScope i_pieces_in.N ["thing", "deep", "within"] (defScope s_pieces_in) := ⟨rfl, rfl, rfl, by decide +kernel, rfl, by decide +kernel, by decide +kernel⟩
theorem ok_pieces_in : ScOk i_pieces_in (defScope s_pieces_in) := ⟨rfl, by decide +kernel, by decide +kernel, by decide +kernel, by decide +kernel⟩
abbrev s_is_condition : Stmt := topS 51
def i_is_condition : Si := ⟨defScope s_is_condition, ["thing", "found"], [0, 1], [0, 1], [], ["pieces_in", "MOST_DEEP", "MOST_PIECES"], false, false⟩
theorem sc_is_condition : FnScope i_is_condition.N ["thing"] (defScope s_is_condition) := ⟨rfl, rfl, rfl, by decide +kernel, rfl, by decide +kernel, by decide +kernel⟩
theorem ok_is_condition : ScOk i_is_condition (defScope s_is_condition) := ⟨rfl, by decide +kernel, by decide +kernel, by decide +kernel, by decide +kernel⟩
abbrev s_need_condition : Stmt := topS 52
def i_need_condition : Si := ⟨defScope s_need_condition, ["thing"], [0], [0], [], ["is_condition", "NoCondition"], false, false⟩
theorem sc_need_condition : FnScope i_need_condition.N ["thing"] (defScope s_need_condition) := ⟨rfl, rfl, rfl, by decide +kernel, rfl, by decide +kernel, by decide +kernel⟩
theorem ok_need_condition : ScOk i_need_condition (defScope s_need_condition) := ⟨rfl, by decide +kernel, by decide +kernel, by decide +kernel, by decide +kernel⟩
abbrev s_taken_of : Stmt := topS 53
def i_taken_of : Si := ⟨defScope s_taken_of, ["taken", "name", "person"], [0, 1, 2], [0, 1, 2], [], [], false, false⟩
theorem sc_taken_of : FnScope i_taken_of.N ["taken", "name", "person"] (defScope s_taken_of) := ⟨rfl, rfl, rfl, by decide +kernel, rfl, by decide +kernel, by decide +kernel⟩
theorem ok_taken_of : ScOk i_taken_of (defScope s_taken_of) := ⟨rfl, by decide +kernel, by decide +kernel, by decide +kernel, by decide +kernel⟩
abbrev s_holds_piece : Stmt := topS 54
def i_holds_piece : Si := ⟨defScope s_holds_piece, ["piece", "value", "look"], [0, 1, 2], [0, 1, 2], [], ["PIECES"], false, false⟩
theorem sc_holds_piece : FnScope i_holds_piece.N ["piece", "value"] (defScope s_holds_piece) := ⟨rfl, rfl, rfl, by decide +kernel, rfl, by decide +kernel, by decide +kernel⟩
theorem ok_holds_piece : ScOk i_holds_piece (defScope s_holds_piece) := ⟨rfl, by decide +kernel, by decide +kernel, by decide +kernel, by decide +kernel⟩
abbrev s_holds_by : Stmt := topS 55
def i_holds_by : Si := ⟨defScope s_holds_by, ["condition", "taken", "person", "folk", "word", "found", "k", "part"], [0, 1, 2, 3, 4, 5], [4, 5], [0, 1, 2, 3], ["PIECES", "all", "any", "holds_piece", "holds_by", "taken_of", "range"], false, false⟩
theorem sc_holds_by : FnScope i_holds_by.N ["condition", "taken", "person", "folk"] (defScope s_holds_by) := ⟨rfl, rfl, rfl, by decide +kernel, rfl, by decide +kernel, by decide +kernel⟩
theorem ok_holds_by : ScOk i_holds_by (defScope s_holds_by) := ⟨rfl, by decide +kernel, by decide +kernel, by decide +kernel, by decide +kernel⟩
abbrev s_holds : Stmt := topS 56
def i_holds : Si := ⟨defScope s_holds, ["condition", "taken", "person", "folk"], [0, 1, 2, 3], [0, 1, 2, 3], [], ["need_condition", "holds_by"], false, false⟩
theorem sc_holds : FnScope i_holds.N ["condition", "taken", "person", "folk"] (defScope s_holds) := ⟨rfl, rfl, rfl, by decide +kernel, rfl, by decide +kernel, by decide +kernel⟩
theorem ok_holds : ScOk i_holds (defScope s_holds) := ⟨rfl, by decide +kernel, by decide +kernel, by decide +kernel, by decide +kernel⟩
abbrev s_L_pot : Stmt := topS 58
def i_L_pot : Si := ⟨defScope s_L_pot, ["_law_script", "_law_k", "_law_cell"], [0, 1, 2], [0, 1, 2], [], ["len", "abs", "int"], false, false⟩
theorem sc_L_pot : FnScope i_L_pot.N ["_law_script", "_law_k"] (defScope s_L_pot) := ⟨rfl, rfl, rfl, by decide +kernel, rfl, by decide +kernel, by decide +kernel⟩
theorem ok_L_pot : ScOk i_L_pot (defScope s_L_pot) := ⟨rfl, by decide +kernel, by decide +kernel, by decide +kernel, by decide +kernel⟩
abbrev s_L_take : Stmt := topS 59
def i_L_take : Si := ⟨defScope s_L_take, ["_law_pot_here", "_law_many", "_law_found", "_law_one", "_law_other"], [0, 1, 2, 3, 4], [0, 1, 2, 3, 4], [], [], false, false⟩
theorem sc_L_take : FnScope i_L_take.N ["_law_pot_here", "_law_many"] (defScope s_L_take) := ⟨rfl, rfl, rfl, by decide +kernel, rfl, by decide +kernel, by decide +kernel⟩
theorem ok_L_take : ScOk i_L_take (defScope s_L_take) := ⟨rfl, by decide +kernel, by decide +kernel, by decide +kernel, by decide +kernel⟩
abbrev s_L_words : Stmt := topS 60
def i_L_words : Si := ⟨defScope s_L_words, [], [], [], [], [], false, false⟩
theorem sc_L_words : FnScope i_L_words.N [] (defScope s_L_words) := ⟨rfl, rfl, rfl, by decide +kernel, rfl, by decide +kernel, by decide +kernel⟩
theorem ok_L_words : ScOk i_L_words (defScope s_L_words) := ⟨rfl, by decide +kernel, by decide +kernel, by decide +kernel, by decide +kernel⟩
abbrev s_L_name : Stmt := topS 61
def i_L_name : Si := ⟨defScope s_L_name, ["_law_pot_here", "_law_letters", "_law_name_here", "_law_turn"], [0, 1, 2, 3], [0, 1, 2, 3], [], ["range", "_law_take", "_law_words"], false, false⟩
theorem sc_L_name : FnScope i_L_name.N ["_law_pot_here"] (defScope s_L_name) := ⟨rfl, rfl, rfl, by decide +kernel, rfl, by decide +kernel, by decide +kernel⟩
theorem ok_L_name : ScOk i_L_name (defScope s_L_name) := ⟨rfl, by decide +kernel, by decide +kernel, by decide +kernel, by decide +kernel⟩
abbrev s_L_is_name : Stmt := topS 62
def i_L_is_name : Si := ⟨defScope s_L_is_name, ["_law_thing", "_law_sign"], [0], [0], [], ["isinstance", "str", "_law_words", "len"], false, false⟩
theorem sc_L_is_name : FnScope i_L_is_name.N ["_law_thing"] (defScope s_L_is_name) := ⟨rfl, rfl, rfl, by decide +kernel, rfl, by decide +kernel, by decide +kernel⟩
theorem ok_L_is_name : ScOk i_L_is_name (defScope s_L_is_name) := ⟨rfl, by decide +kernel, by decide +kernel, by decide +kernel, by decide +kernel⟩
abbrev s_L_is_within : Stmt := topS 63
def i_L_is_within : Si := ⟨defScope s_L_is_within, ["_law_thing", "_law_low", "_law_high"], [0, 1, 2], [0, 1, 2], [], ["isinstance", "int", "bool"], false, false⟩
theorem sc_L_is_within : FnScope i_L_is_within.N ["_law_thing", "_law_low", "_law_high"] (defScope s_L_is_within) := ⟨rfl, rfl, rfl, by decide +kernel, rfl, by decide +kernel, by decide +kernel⟩
theorem ok_L_is_within : ScOk i_L_is_within (defScope s_L_is_within) := ⟨rfl, by decide +kernel, by decide +kernel, by decide +kernel, by decide +kernel⟩
abbrev s_L_odd : Stmt := topS 64
def i_L_odd : Si := ⟨defScope s_L_odd, ["_law_pot_here"], [0], [0], [], ["_law_take"], false, false⟩
theorem sc_L_odd : FnScope i_L_odd.N ["_law_pot_here"] (defScope s_L_odd) := ⟨rfl, rfl, rfl, by decide +kernel, rfl, by decide +kernel, by decide +kernel⟩
theorem ok_L_odd : ScOk i_L_odd (defScope s_L_odd) := ⟨rfl, by decide +kernel, by decide +kernel, by decide +kernel, by decide +kernel⟩
abbrev s_L_bent : Stmt := topS 65
def i_L_bent : Si := ⟨defScope s_L_bent, ["_law_pot_here", "_law_thing", "_law_deep", "_law_way", "_law_odd_here", "_law_at", "_law_sign", "_law_some"], [0, 1, 2, 3, 4, 5, 6, 7], [0, 1, 2, 3, 4, 5, 6, 7], [], ["_law_take", "_law_odd", "isinstance", "str", "tuple", "max", "bool", "len", "list", "int", "_law_bent"], false, false⟩
theorem sc_L_bent : FnScope i_L_bent.N ["_law_pot_here", "_law_thing", "_law_deep"] (defScope s_L_bent) := ⟨rfl, rfl, rfl, by decide +kernel, rfl, by decide +kernel, by decide +kernel⟩
theorem ok_L_bent : ScOk i_L_bent (defScope s_L_bent) := ⟨rfl, by decide +kernel, by decide +kernel, by decide +kernel, by decide +kernel⟩
abbrev s_L_word : Stmt := topS 66
def i_L_word : Si := ⟨defScope s_L_word, ["_law_call", "_law_caught", "e", "_law_kinds", "_law_others"], [0, 1, 2, 3, 4], [0, 1, 2, 3, 4], [], ["AskError", "isinstance", "NoKind", "NoValue", "NoCondition", "NoForm", "NoKey", "TooWide", "Stuck", "NoBook", "Clash", "Full", "NoNames", "NoEntry", "NoCheck", "Twice", "NoLines", "NoRound", "NoWeights", "NoTable", "NoFits", "NoTotals", "NoCounts", "NoPlaces", "NoPlace", "NoText", "NoLine", "CannotGo", "NoRecord", "NoFit", "ValueError"], false, false⟩
theorem sc_L_word : FnScope i_L_word.N ["_law_call"] (defScope s_L_word) := ⟨rfl, rfl, rfl, by decide +kernel, rfl, by decide +kernel, by decide +kernel⟩
theorem ok_L_word : ScOk i_L_word (defScope s_L_word) := ⟨rfl, by decide +kernel, by decide +kernel, by decide +kernel, by decide +kernel⟩
abbrev s_L_names : Stmt := topS 67
def i_L_names : Si := ⟨defScope s_L_names, ["_law_pot_here", "_law_found", "_law_turn", "_law_name_here", "_law_other"], [0, 1, 2, 3], [0, 2, 3], [1], ["range", "_law_name"], false, false⟩
theorem sc_L_names : FnScope i_L_names.N ["_law_pot_here"] (defScope s_L_names) := ⟨rfl, rfl, rfl, by decide +kernel, rfl, by decide +kernel, by decide +kernel⟩
theorem ok_L_names : ScOk i_L_names (defScope s_L_names) := ⟨rfl, by decide +kernel, by decide +kernel, by decide +kernel, by decide +kernel⟩
abbrev s_L_piece : Stmt := topS 68
def i_L_piece : Si := ⟨defScope s_L_piece, ["_law_pot_here", "_law_names_here", "_law_name_here", "_law_option", "_law_way"], [0, 1, 2, 3, 4], [0, 1, 2, 3, 4], [], ["_law_take", "len"], false, false⟩
theorem sc_L_piece : FnScope i_L_piece.N ["_law_pot_here", "_law_names_here"] (defScope s_L_piece) := ⟨rfl, rfl, rfl, by decide +kernel, rfl, by decide +kernel, by decide +kernel⟩
theorem ok_L_piece : ScOk i_L_piece (defScope s_L_piece) := ⟨rfl, by decide +kernel, by decide +kernel, by decide +kernel, by decide +kernel⟩
abbrev s_L_drawn : Stmt := topS 69
def i_L_drawn : Si := ⟨defScope s_L_drawn, ["_law_pot_here", "_law_names_here", "_law_deep", "_law_most", "_law_within", "_law_way", "_law_inner", "_law_used", "_law_parts", "_law_total", "_law_many", "_law_k"], [0, 1, 2, 3, 4, 5, 6, 7, 8, 9, 10, 11], [0, 1, 2, 3, 4, 5, 6, 7, 8, 9, 10, 11], [], ["_law_take", "min", "range", "_law_drawn", "_law_piece", "tuple", "len"], false, false⟩
theorem sc_L_drawn : FnScope i_L_drawn.N ["_law_pot_here", "_law_names_here", "_law_deep", "_law_most", "_law_within"] (defScope s_L_drawn) := ⟨rfl, rfl, rfl, by decide +kernel, rfl, by decide +kernel, by decide +kernel⟩
theorem ok_L_drawn : ScOk i_L_drawn (defScope s_L_drawn) := ⟨rfl, by decide +kernel, by decide +kernel, by decide +kernel, by decide +kernel⟩
abbrev s_L_condition : Stmt := topS 70
def i_L_condition : Si := ⟨defScope s_L_condition, ["_law_pot_here", "_law_names_here"], [0, 1], [0, 1], [], ["_law_drawn", "_law_take"], false, false⟩
theorem sc_L_condition : FnScope i_L_condition.N ["_law_pot_here", "_law_names_here"] (defScope s_L_condition) := ⟨rfl, rfl, rfl, by decide +kernel, rfl, by decide +kernel, by decide +kernel⟩
theorem ok_L_condition : ScOk i_L_condition (defScope s_L_condition) := ⟨rfl, by decide +kernel, by decide +kernel, by decide +kernel, by decide +kernel⟩
abbrev s_L_pieces : Stmt := topS 71
def i_L_pieces : Si := ⟨defScope s_L_pieces, ["_law_thing", "_law_deep", "_law_within", "_law_part"], [0, 1, 2], [0], [1, 2], ["min", "_law_is_name", "_law_pieces", "sum", "isinstance", "tuple", "len", "str", "_law_is_within"], false, false⟩
theorem sc_L_pieces : FnScope i_L_pieces.N ["_law_thing", "_law_deep", "_law_within"] (defScope s_L_pieces) := ⟨rfl, rfl, rfl, by decide +kernel, rfl, by decide +kernel, by decide +kernel⟩
theorem ok_L_pieces : ScOk i_L_pieces (defScope s_L_pieces) := ⟨rfl, by decide +kernel, by decide +kernel, by decide +kernel, by decide +kernel⟩
abbrev s_L_is_condition : Stmt := topS 72
def i_L_is_condition : Si := ⟨defScope s_L_is_condition, ["_law_thing"], [0], [0], [], ["_law_pieces"], false, false⟩
theorem sc_L_is_condition : FnScope i_L_is_condition.N ["_law_thing"] (defScope s_L_is_condition) := ⟨rfl, rfl, rfl, by decide +kernel, rfl, by decide +kernel, by decide +kernel⟩
theorem ok_L_is_condition : ScOk i_L_is_condition (defScope s_L_is_condition) := ⟨rfl, by decide +kernel, by decide +kernel, by decide +kernel, by decide +kernel⟩
abbrev s_L_holds : Stmt := topS 73
def i_L_holds : Si := ⟨defScope s_L_holds, ["_law_condition_here", "_law_taken_here", "_law_someone", "_law_house", "_law_word_here", "_law_found", "_law_many", "_law_key", "_law_value", "_law_sought", "_law_part", "_law_k"], [0, 1, 2, 3, 4, 5, 6, 7, 8, 9], [4, 5, 6, 7, 8, 9], [0, 1, 2, 3], ["isinstance", "int", "_law_holds", "str", "tuple", "range"], false, false⟩
theorem sc_L_holds : FnScope i_L_holds.N ["_law_condition_here", "_law_taken_here", "_law_someone", "_law_house"] (defScope s_L_holds) := ⟨rfl, rfl, rfl, by decide +kernel, rfl, by decide +kernel, by decide +kernel⟩
theorem ok_L_holds : ScOk i_L_holds (defScope s_L_holds) := ⟨rfl, by decide +kernel, by decide +kernel, by decide +kernel, by decide +kernel⟩
abbrev s_L_taken : Stmt := topS 74
def i_L_taken : Si := ⟨defScope s_L_taken, ["_law_pot_here", "_law_names_here", "_law_found", "_law_name_here", "_law_someone", "_law_way", "_law_some", "_law_number", "_law_option"], [0, 1, 2, 3, 4, 5, 6, 7], [1, 2, 3, 4, 5, 6, 7], [0], ["_law_take", "tuple", "len"], false, false⟩
theorem sc_L_taken : FnScope i_L_taken.N ["_law_pot_here", "_law_names_here"] (defScope s_L_taken) := ⟨rfl, rfl, rfl, by decide +kernel, rfl, by decide +kernel, by decide +kernel⟩
theorem ok_L_taken : ScOk i_L_taken (defScope s_L_taken) := ⟨rfl, by decide +kernel, by decide +kernel, by decide +kernel, by decide +kernel⟩
abbrev s_L_folk : Stmt := topS 75
def i_L_folk : Si := ⟨defScope s_L_folk, ["_law_pot_here", "_law_names_here", "_law_name_here"], [0, 1], [1], [0], ["dict"], false, false⟩
theorem sc_L_folk : FnScope i_L_folk.N ["_law_pot_here", "_law_names_here"] (defScope s_L_folk) := ⟨rfl, rfl, rfl, by decide +kernel, rfl, by decide +kernel, by decide +kernel⟩
theorem ok_L_folk : ScOk i_L_folk (defScope s_L_folk) := ⟨rfl, by decide +kernel, by decide +kernel, by decide +kernel, by decide +kernel⟩
abbrev s_L_told : Stmt := topS 76
def i_L_told : Si := ⟨defScope s_L_told, ["_law_way", "_law_condition_here", "_law_taken_here", "_law_someone", "_law_house"], [0, 1, 2, 3, 4], [0, 1, 2, 3, 4], [], ["holds"], false, false⟩
theorem sc_L_told : FnScope i_L_told.N ["_law_way", "_law_condition_here", "_law_taken_here", "_law_someone", "_law_house"] (defScope s_L_told) := ⟨rfl, rfl, rfl, by decide +kernel, rfl, by decide +kernel, by decide +kernel⟩
theorem ok_L_told : ScOk i_L_told (defScope s_L_told) := ⟨rfl, by decide +kernel, by decide +kernel, by decide +kernel, by decide +kernel⟩
abbrev s_L_asked_right : Stmt := topS 77
def i_L_asked_right : Si := ⟨defScope s_L_asked_right, ["_law_pot_here", "_law_condition_here", "_law_taken_here", "_law_house", "_law_way", "_law_someone", "_law_shown", "_law_due", "_law_again", "_law_found"], [0, 1, 2, 3, 4, 5, 6, 7, 8, 9], [0, 1, 2, 3, 4, 5, 6, 7, 8, 9], [], ["range", "_law_take", "repr", "_law_holds", "_law_told", "int", "isinstance", "bool"], false, false⟩
theorem sc_L_asked_right : FnScope i_L_asked_right.N ["_law_pot_here", "_law_condition_here", "_law_taken_here", "_law_house"] (defScope s_L_asked_right) := ⟨rfl, rfl, rfl, by decide +kernel, rfl, by decide +kernel, by decide +kernel⟩
theorem ok_L_asked_right : ScOk i_L_asked_right (defScope s_L_asked_right) := ⟨rfl, by decide +kernel, by decide +kernel, by decide +kernel, by decide +kernel⟩
abbrev s_law : Stmt := topS 78
def i_law : Si := ⟨defScope s_law, ["_law_script", "_law_k", "_law_pot_here", "_law_names_here", "_law_turn", "_law_condition_here", "_law_taken_here", "_law_house", "_law_thing"], [0, 1, 2, 3, 4, 5, 6, 7, 8], [0, 1, 2, 3, 4, 5], [6, 7, 8], ["range", "max", "_law_pot", "_law_names", "holds", "min", "_law_condition", "_law_bent", "_law_odd", "list", "len", "_law_taken", "_law_folk", "_law_asked_right", "_law_is_condition", "_law_word"], false, false⟩
theorem sc_law : FnScope i_law.N ["_law_script"] (defScope s_law) := ⟨rfl, rfl, rfl, by decide +kernel, rfl, by decide +kernel, by decide +kernel⟩
theorem ok_law : ScOk i_law (defScope s_law) := ⟨rfl, by decide +kernel, by decide +kernel, by decide +kernel, by decide +kernel⟩
/-- what the top leaves -/
structure Txt (g : Gc) : Prop where
  sy : SysOk g.base
  p_is_whole : Pl g "is_whole" s_is_whole
  p_is_within : Pl g "is_within" s_is_within
  p_is_number : Pl g "is_number" s_is_number
  p_is_name : Pl g "is_name" s_is_name
  p_holds_is : Pl g "holds_is" s_holds_is
  p_holds_has : Pl g "holds_has" s_holds_has
  p_holds_from : Pl g "holds_from" s_holds_from
  p_holds_to : Pl g "holds_to" s_holds_to
  p_is_piece : Pl g "is_piece" s_is_piece
  p_pieces_of_parts : Pl g "pieces_of_parts" s_pieces_of_parts
  p_pieces_in : Pl g "pieces_in" s_pieces_in
  p_is_condition : Pl g "is_condition" s_is_condition
  p_need_condition : Pl g "need_condition" s_need_condition
  p_taken_of : Pl g "taken_of" s_taken_of
  p_holds_piece : Pl g "holds_piece" s_holds_piece
  p_holds_by : Pl g "holds_by" s_holds_by
  p_holds : PlD g "holds" s_holds [.int (0), .none]
  p_L_pot : Pl g "_law_pot" s_L_pot
  p_L_take : Pl g "_law_take" s_L_take
  p_L_words : Pl g "_law_words" s_L_words
  p_L_name : Pl g "_law_name" s_L_name
  p_L_is_name : Pl g "_law_is_name" s_L_is_name
  p_L_is_within : Pl g "_law_is_within" s_L_is_within
  p_L_odd : Pl g "_law_odd" s_L_odd
  p_L_bent : Pl g "_law_bent" s_L_bent
  p_L_word : Pl g "_law_word" s_L_word
  p_L_names : Pl g "_law_names" s_L_names
  p_L_piece : Pl g "_law_piece" s_L_piece
  p_L_drawn : Pl g "_law_drawn" s_L_drawn
  p_L_condition : Pl g "_law_condition" s_L_condition
  p_L_pieces : Pl g "_law_pieces" s_L_pieces
  p_L_is_condition : Pl g "_law_is_condition" s_L_is_condition
  p_L_holds : Pl g "_law_holds" s_L_holds
  p_L_taken : Pl g "_law_taken" s_L_taken
  p_L_folk : Pl g "_law_folk" s_L_folk
  p_L_told : Pl g "_law_told" s_L_told
  p_L_asked_right : Pl g "_law_asked_right" s_L_asked_right
  p_law : Pl g "law" s_law
  n_isinstance : g.mg "isinstance" = none
  n_int : g.mg "int" = none
  n_bool : g.mg "bool" = none
  n_all : g.mg "all" = none
  n_str : g.mg "str" = none
  n_len : g.mg "len" = none
  n_tuple : g.mg "tuple" = none
  n_sum : g.mg "sum" = none
  n_any : g.mg "any" = none
  n_range : g.mg "range" = none
  n_abs : g.mg "abs" = none
  n_max : g.mg "max" = none
  n_list : g.mg "list" = none
  n_ValueError : g.mg "ValueError" = none
  n_min : g.mg "min" = none
  n_dict : g.mg "dict" = none
  n_repr : g.mg "repr" = none
  y_NoKind : CNm g "NoKind"
  y_NoValue : CNm g "NoValue"
  y_NoCondition : CNm g "NoCondition"
  y_NoForm : CNm g "NoForm"
  y_NoKey : CNm g "NoKey"
  y_TooWide : CNm g "TooWide"
  y_Stuck : CNm g "Stuck"
  y_NoBook : CNm g "NoBook"
  y_Clash : CNm g "Clash"
  y_Full : CNm g "Full"
  y_NoNames : CNm g "NoNames"
  y_NoEntry : CNm g "NoEntry"
  y_NoCheck : CNm g "NoCheck"
  y_Twice : CNm g "Twice"
  y_NoLines : CNm g "NoLines"
  y_NoRound : CNm g "NoRound"
  y_NoWeights : CNm g "NoWeights"
  y_NoTable : CNm g "NoTable"
  y_NoFits : CNm g "NoFits"
  y_NoTotals : CNm g "NoTotals"
  y_NoCounts : CNm g "NoCounts"
  y_NoPlaces : CNm g "NoPlaces"
  y_NoPlace : CNm g "NoPlace"
  y_NoText : CNm g "NoText"
  y_NoLine : CNm g "NoLine"
  y_CannotGo : CNm g "CannotGo"
  y_NoRecord : CNm g "NoRecord"
  y_NoFit : CNm g "NoFit"
  y_ValueError : CNm g "ValueError"
  e_NoCondition : ECls g "NoCondition"
  x_AskError : ENm g "AskError" (ecl g "AskError")
  m_NoCondition_AskError : PySem.W.exmOne g.K (ecl g "NoCondition") (ecl g "AskError") = some true
  b_NoCondition : isAll g (ecl g "NoCondition") [("NoKind", false), ("NoValue", false), ("NoCondition", true), ("NoForm", false), ("NoKey", false), ("TooWide", false), ("Stuck", false), ("NoBook", false), ("Clash", false), ("Full", false), ("NoNames", false), ("NoEntry", false), ("NoCheck", false), ("Twice", false), ("NoLines", false), ("NoRound", false), ("NoWeights", false), ("NoTable", false), ("NoFits", false), ("NoTotals", false), ("NoCounts", false), ("NoPlaces", false), ("NoPlace", false), ("NoText", false), ("NoLine", false), ("CannotGo", false), ("NoRecord", false), ("NoFit", false), ("ValueError", true)]
  w_PIECES : ∃ d, KFn g "PIECES" d [("is", "holds_is"), ("has", "holds_has"), ("from", "holds_from"), ("to", "holds_to")]
  c_MOST_NUMBER : Cst g "MOST_NUMBER" k_MOST_NUMBER
  c_WORDS : Cst g "WORDS" k_WORDS
  c_MOST_LETTERS : Cst g "MOST_LETTERS" k_MOST_LETTERS
  c_LETTERS : Cst g "LETTERS" k_LETTERS
  c_PIECES : ∃ d, KTab g "PIECES" d ["is", "has", "from", "to"]
  c_MOST_PARTS : Cst g "MOST_PARTS" k_MOST_PARTS
  c_MOST_DEEP : Cst g "MOST_DEEP" k_MOST_DEEP
  c_MOST_PIECES : Cst g "MOST_PIECES" k_MOST_PIECES
/-- a function of one datum -/
def sp1 (C : PyData → Prop) (f : PyData → PyData) : SpD := fun ws M Q _ => ∃ x, ws = [.d x] ∧ C x ∧ Q (.d (f x)) M
theorem sp1_len {C f} : ∀ ws M Q E, sp1 C f ws M Q E → ws.length = 1 := by rintro _ _ _ _ ⟨x, rfl, _⟩; rfl
def sp0 (d : PyData) : SpD := fun ws M Q _ => ws = [] ∧ Q (.d d) M
theorem sp0_len {d} : ∀ ws M Q E, sp0 d ws M Q E → ws.length = 0 := by rintro _ _ _ _ ⟨rfl, _⟩; rfl
/-- a whole number within bounds -/
def spWithin (f : PyData → Int → Int → PyData) : SpD := fun ws M Q _ => ∃ x a b, ws = [.d x, .d (.int a), .d (.int b)] ∧ Q (.d (f x a b)) M
theorem spWithin_len {f} : ∀ ws M Q E, spWithin f ws M Q E → ws.length = 3 := by rintro _ _ _ _ ⟨x, a, b, rfl, _⟩; rfl
theorem qcast {Q : W → MH → Prop} {M : MH} {a b : Bool} (h : Q (.d (.bool a)) M) (e : a = b) : Q (.d (.bool b)) M := by rw [← e]; exact h
def isWhole : PyData → Bool | .int _ => true | _ => false
def isWithin (x : PyData) (a b : Int) : Bool := match x with | .int n => decide (a ≤ n) && decide (n ≤ b) | _ => false
def wordsD : List PyData := [.str "ask", .str "pick", .str "some", .str "count", .str "if", .str "else", .str "end", .str "part", .str "leave", .str "each", .str "hard", .str "soft", .str "is", .str "has", .str "from", .str "to", .str "not", .str "and", .str "or", .str "any", .str "every"]
/-- a small letter -/
def isLow (c : Nat) : Bool := decide (97 ≤ c) && decide (c ≤ 122)
def lowW : W → Bool
  | .d (.str z) => (match z.cps.toList with | [c] => isLow c | _ => false)
  | _ => false
def unW : W → PyData
  | .d x => x
  | _ => .none
theorem lowW_one (c : Nat) : lowW (.d (.str ⟨#[c]⟩)) = isLow c := rfl
def isNameS (z : Str) : Bool := decide (1 ≤ z.length) && decide (z.length ≤ 8) && !inD (.str z) wordsD && z.cps.toList.all isLow
def isName : PyData → Bool | .str z => isNameS z | _ => false
def okT (x : PyData) : Prop := okL (2 ^ 198) x = true ∧ x.weight ≤ 16000000
theorem d_is_whole {g : Gc} (T : Txt g) : Df g 1 "is_whole" ["thing"] (sp1 (fun _ => True) fun x => .bool (isWhole x)) := by
  refine df_of (k := 0) (i := i_is_whole) T.p_is_whole T.sy sc_is_whole ok_is_whole (fun _ _ _ _ _ _ us hl => match us, hl with | [_], _ => rfl) ?_ (fun Y ws M Q E F hE h => ?_)
  · exact sp1_len
  · obtain ⟨x, rfl, _, h⟩ := h
    refine ⟨_, (ss_one (s_ret (q_and (q_isi F 0 1 isk_int T.n_isinstance T.n_int (by decide +kernel) (q_var F 0)) (q_one (q_not (q_isi F 0 2 isk_bool T.n_isinstance T.n_bool (by decide +kernel) (q_var F 0))))))), ?_⟩
    cases x <;> exact h
theorem d_is_within {g : Gc} (T : Txt g) : Df g 2 "is_within" ["thing", "low", "high"] (spWithin fun x a b => .bool (isWithin x a b)) := by
  refine df_of (k := 1) (i := i_is_within) T.p_is_within T.sy sc_is_within ok_is_within (fun _ _ _ _ _ _ us hl => match us, hl with | [_, _, _], _ => rfl) ?_ (fun Y ws M Q E F hE h => ?_)
  · exact spWithin_len
  · obtain ⟨x, a, b, rfl, h⟩ := h
    refine ⟨_, (ss_one (s_ret (q_and (q_call F 0 (d_is_whole T) (a_cons (q_var F 0) a_nil)) (q_one (q_chn o_le o_le (q_var F 1) (q_var F 0) (q_var F 2)))))), ?_⟩
    refine ⟨x, rfl, trivial, ?_⟩
    cases x with
    | int n =>
      refine ifD (fun h1 => ?_) (fun h1 => ?_)
      · exact qcast h (by simp [isWithin, show a ≤ n from h1])
      · exact qcast h (by simp [isWithin, show ¬ a ≤ n from h1])
    | _ => exact h
theorem d_is_number {g : Gc} (T : Txt g) : Df g 3 "is_number" ["thing"] (sp1 (fun _ => True) fun x => .bool (isWithin x 0 1000000)) := by
  refine df_of (k := 2) (i := i_is_number) T.p_is_number T.sy sc_is_number ok_is_number (fun _ _ _ _ _ _ us hl => match us, hl with | [_], _ => rfl) ?_ (fun Y ws M Q E F hE h => ?_)
  · exact sp1_len
  · obtain ⟨x, rfl, _, h⟩ := h
    exact ⟨_, (ss_one (s_ret (q_call F 0 (d_is_within T) (a_cons (q_var F 0) (a_cons q_int (a_cons (q_cst F 1 T.c_MOST_NUMBER) a_nil)))))), x, 0, 1000000, rfl, h⟩
theorem d_L_is_within {g : Gc} (T : Txt g) : Df g 1 "_law_is_within" ["_law_thing", "_law_low", "_law_high"] (spWithin fun x a b => .bool (isWithin x a b)) := by
  refine df_of (k := 0) (i := i_L_is_within) T.p_L_is_within T.sy sc_L_is_within ok_L_is_within (fun _ _ _ _ _ _ us hl => match us, hl with | [_, _, _], _ => rfl) ?_ (fun Y ws M Q E F hE h => ?_)
  · exact spWithin_len
  · obtain ⟨x, a, b, rfl, h⟩ := h
    refine ⟨_, (ss_one (s_ret (q_and (q_isi F 0 1 isk_int T.n_isinstance T.n_int (by decide +kernel) (q_var F 0)) (q_and (q_not (q_isi F 0 2 isk_bool T.n_isinstance T.n_bool (by decide +kernel) (q_var F 0))) (q_one (q_chn o_le o_le (q_var F 1) (q_var F 0) (q_var F 2))))))), ?_⟩
    cases x with
    | int n =>
      refine ifD (fun h1 => ?_) (fun h1 => ?_)
      · exact qcast h (by simp [isWithin, show a ≤ n from h1])
      · exact qcast h (by simp [isWithin, show ¬ a ≤ n from h1])
    | _ => exact h
theorem low_in (c : Nat) : within ⟨#[c]⟩ "abcdefghijklmnopqrstuvwxyz" = isLow c := by
  rw [within_one]
  unfold isLow
  rw [← Bool.decide_and]
  apply decide_eq_decide.mpr
  have e : ("abcdefghijklmnopqrstuvwxyz" : Str).cps.toList = List.range' 97 26 := by decide +kernel
  rw [e, List.mem_range'_1]
  omega
theorem words_lay : PyData.canLayAll0 wordsD = true := by decide +kernel
theorem words_depth : PyData.depthAll wordsD ≤ 1 := by decide +kernel
theorem in_words {z : Str} (h : (PyData.str z).canLay0 = true) : inOk (.str z) wordsD = true := by
  unfold inOk
  rw [words_lay, h]
  have := words_depth
  simp
  omega
theorem d_is_name {g : Gc} (T : Txt g) : Df g 1 "is_name" ["thing"] (sp1 okT fun x => .bool (isName x)) := by
  refine df_of (k := 0) (i := i_is_name) T.p_is_name T.sy sc_is_name ok_is_name (fun _ _ _ _ _ _ us hl => match us, hl with | [_], _ => rfl) ?_ (fun Y ws M Q E F hE h => ?_)
  · exact sp1_len
  · obtain ⟨x, rfl, hx, h⟩ := h
    refine ⟨_, (ss_cons (s_if (QW.pt (w_or (t_not (t_val (q_isi F 2 3 isk_str T.n_isinstance T.n_str (by decide +kernel) (q_var F 0)))) (w_or (t_not (t_chn o_le o_le q_int (q_callB F 5 c_len T.n_len (by decide +kernel) (a_cons (q_var F 0) a_nil)) (q_cst F 4 T.c_MOST_LETTERS))) (w_or1 (t_cmp (o_in F) (q_var F 0) (q_cst F 1 T.c_WORDS)))))) (ss_one (s_ret q_bool)) ss_nil) (ss_one (s_ret (q_callB F 0 (c_all F) T.n_all (by decide +kernel) (a_cons (q_lc (own := [("sign", 1)]) F ⟨_, ["thing", "sign"], [1], [1], [], ["LETTERS"], false, true⟩ (.one 1) ⟨rfl, rfl, ⟨rfl, by decide +kernel, by decide +kernel, by decide +kernel, by decide +kernel⟩, by decide +kernel, by decide +kernel, rfl, rfl⟩ (by decide) (i_str (q_var F 0)) (fun _ F hw => ⟨(pgN F 1), ts_nil, (q_cmp o_inS (q_var F 1) (q_cst F 0 T.c_LETTERS))⟩)) a_nil))))), ?_⟩
    cases x with
    | str z =>
      have hz : small z.length := small_of (Nat.le_trans hx.2 (by decide))
      have no : isName (.str z) = false → Q (.d (.bool false)) M := fun e => qcast h e
      by_cases h1 : (1 : Int) ≤ (z.length : Int)
      case neg =>
        refine ⟨hz, ?_⟩
        refine ifD (fun c => absurd c h1) (fun _ => ?_)
        exact no (by simp [isName, isNameS]; omega)
      refine ⟨hz, ?_⟩
      refine ifD (fun _ => ?_) (fun c => absurd h1 c)
      dsimp only [tK, rInt0, k_MOST_LETTERS]
      by_cases h2 : (z.length : Int) ≤ 8
      case neg =>
        refine bqc false (decide_eq_false h2) ?_
        exact no (by simp [isName, isNameS]; omega)
      refine bqc true (decide_eq_true h2) ?_
      refine ⟨in_words hx.1, ?_⟩
      cases hw : inD (.str z) wordsD with
      | true =>
        refine bqc true hw ?_
        exact no (by simp [isName, isNameS, hw])
      | false =>
        refine bqc false hw ?_
        refine lcA (T := .one 1) (fun w => .bool (lowW w)) ?_ (fun _ _ _ => trivial) ?_ ?_
        · simp [Dl.signs]
          exact Nat.le_trans hx.2 (by decide)
        · intro w hw M2 _ R r
          obtain ⟨c, rfl⟩ : ∃ c, w = .d (.str ⟨#[c]⟩) := by
            unfold Dl.signs at hw
            obtain ⟨c, _, e⟩ := List.mem_map.mp hw
            exact ⟨c, e.symm⟩
          exact cast (congrArg (fun b => R (.d (.bool b)) M2) (low_in c).symm) r
        · dsimp only [tNilA, Dl.rAll]
          have e : (Dl.signs z).map (fun w => PyData.bool (lowW w)) = (z.cps.toList.map isLow).map PyData.bool := by
            unfold Dl.signs
            rw [List.map_map, List.map_map]
            rfl
          rw [e, bools_map]
          refine qcast h ?_
          have h1' : 1 ≤ z.length := by omega
          have h2' : z.length ≤ 8 := by omega
          simp [isName, isNameS, hw, h1', h2']
    | _ => exact h
theorem sa : ("a" : Str).cps.toList = [97] := by decide +kernel
theorem sz : ("z" : Str).cps.toList = [122] := by decide +kernel
theorem low_le (c : Nat) : (!decide (([c] : List Nat) < [97]) && !decide (([122] : List Nat) < [c])) = isLow c := by
  unfold isLow
  have e1 : ([c] < [97]) ↔ c < 97 := by rw [List.cons_lt_cons_iff]; exact ⟨fun h => h.elim id fun h => absurd h.2 (List.not_lt_nil _), .inl⟩
  have e2 : ([122] < [c]) ↔ 122 < c := by rw [List.cons_lt_cons_iff]; exact ⟨fun h => h.elim id fun h => absurd h.2 (List.not_lt_nil _), .inl⟩
  rw [show decide (([c] : List Nat) < [97]) = decide (c < 97) from decide_eq_decide.mpr e1, show decide (([122] : List Nat) < [c]) = decide (122 < c) from decide_eq_decide.mpr e2]
  by_cases a : c < 97 <;> by_cases b : 122 < c <;> simp [a, b] <;> omega
theorem d_L_words {g : Gc} (T : Txt g) : Df g 1 "_law_words" [] (sp0 (.list wordsD)) := by
  refine df_of (k := 0) (i := i_L_words) T.p_L_words T.sy sc_L_words ok_L_words (fun _ _ _ _ _ _ us hl => match us, hl with | [], _ => rfl) ?_ (fun Y ws M Q E F hE h => ?_)
  · exact sp0_len
  · obtain ⟨rfl, h⟩ := h
    exact ⟨_, (ss_one (s_ret (q_lst (a_cons q_str (a_cons q_str (a_cons q_str (a_cons q_str (a_cons q_str (a_cons q_str (a_cons q_str (a_cons q_str (a_cons q_str (a_cons q_str (a_cons q_str (a_cons q_str (a_cons q_str (a_cons q_str (a_cons q_str (a_cons q_str (a_cons q_str (a_cons q_str (a_cons q_str (a_cons q_str (a_cons q_str a_nil)))))))))))))))))))))))), sm21, h⟩
theorem one_lay {l : List Nat} (h : ∀ c ∈ l, c < 1114112) : PyData.canLayAll0 (l.map fun c => PyData.str ⟨#[c]⟩) = true := by
  induction l with
  | nil => rfl
  | cons c l ih =>
    have hc := h c List.mem_cons_self
    rw [List.map_cons]
    show (PyData.canLay0 (.str ⟨#[c]⟩) && _) = true
    rw [ih fun c hm => h c (List.mem_cons_of_mem _ hm)]
    simp [PyData.canLay0, PyData.strOk, hc]
theorem d_L_is_name {g : Gc} (T : Txt g) : Df g 2 "_law_is_name" ["_law_thing"] (sp1 okT fun x => .bool (isName x)) := by
  refine df_of (k := 1) (i := i_L_is_name) T.p_L_is_name T.sy sc_L_is_name ok_L_is_name (fun _ _ _ _ _ _ us hl => match us, hl with | [_], _ => rfl) ?_ (fun Y ws M Q E F hE h => ?_)
  · exact sp1_len
  · obtain ⟨x, rfl, hx, h⟩ := h
    refine ⟨_, (ss_cons (s_if (QW.pt (w_or (t_not (t_val (q_isi F 0 1 isk_str T.n_isinstance T.n_str (by decide +kernel) (q_var F 0)))) (w_or (t_not (t_chn o_le o_le q_int (q_callB F 3 c_len T.n_len (by decide +kernel) (a_cons (q_var F 0) a_nil)) q_int)) (w_or1 (t_cmp (o_in F) (q_var F 0) (q_call0 F 2 (d_L_words T))))))) (ss_one (s_ret q_bool)) ss_nil) (ss_one (s_ret (q_cmp (o_eq F) (q_lc (own := [("_law_sign", 1)]) F ⟨_, ["_law_thing", "_law_sign"], [1], [1], [], [], false, true⟩ (.one 1) ⟨rfl, rfl, ⟨rfl, by decide +kernel, by decide +kernel, by decide +kernel, by decide +kernel⟩, by decide +kernel, by decide +kernel, rfl, rfl⟩ (by decide) (i_str (q_var F 0)) (fun _ F hw => ⟨(pgN F 1), (ts_one (t_not (t_chn o_leS o_leS q_str (q_var F 1) q_str))), (q_var F 1)⟩)) (q_lst a_nil))))), ?_⟩
    cases x with
    | str z =>
      have hz : small z.length := small_of (Nat.le_trans hx.2 (by decide))
      have no : isName (.str z) = false → Q (.d (.bool false)) M := fun e => qcast h e
      by_cases h1 : (1 : Int) ≤ (z.length : Int)
      case neg =>
        refine ⟨hz, ?_⟩
        refine ifD (fun c => absurd c h1) (fun _ => ?_)
        exact no (by simp [isName, isNameS]; omega)
      refine ⟨hz, ?_⟩
      refine ifD (fun _ => ?_) (fun c => absurd h1 c)
      dsimp only [tK, rInt0]
      by_cases h2 : (z.length : Int) ≤ 8
      case neg =>
        refine bqc false (decide_eq_false h2) ?_
        exact no (by simp [isName, isNameS]; omega)
      refine bqc true (decide_eq_true h2) ?_
      refine ⟨rfl, in_words hx.1, ?_⟩
      cases hw : inD (.str z) wordsD with
      | true =>
        refine bqc true rfl ?_
        exact no (by simp [isName, isNameS, hw])
      | false =>
        refine bqc false rfl ?_
        refine lcP (T := .one 1) (fun w => !lowW w) unW ?_ (fun _ _ _ => trivial) ?_ ?_
        · simp [Dl.signs]
          exact Nat.le_trans hx.2 (by decide)
        · intro w hw M2 _
          obtain ⟨c, rfl⟩ : ∃ c, w = .d (.str ⟨#[c]⟩) := by
            unfold Dl.signs at hw
            obtain ⟨c, _, e⟩ := List.mem_map.mp hw
            exact ⟨c, e.symm⟩
          refine ⟨fun R r => ?_, fun _ R r => r⟩
          have e := low_le c
          rw [← sa, ← sz] at e
          refine ifB (b := !decide (([c] : List Nat) < ("a" : Str).cps.toList)) (fun hb => ?_) (fun hb => ?_)
          · rw [hb] at e
            exact cast (congrArg (fun b => R (!b) M2) (by rw [← e]; rfl)) (show R (!isLow c) M2 from r)
          · rw [hb] at e
            exact cast (congrArg (fun b => R (!b) M2) (by rw [← e]; rfl)) (show R (!isLow c) M2 from r)
        · have em : ∀ l : List Nat, ((l.map fun c => W.d (.str ⟨#[c]⟩)).filter fun w => !lowW w).map unW = (l.filter fun c => !isLow c).map fun c => PyData.str ⟨#[c]⟩ := by
            intro l
            induction l with
            | nil => rfl
            | cons c l ih =>
              rw [List.map_cons, List.filter_cons, List.filter_cons, lowW_one]
              cases hc : !isLow c with
              | true => rw [if_pos rfl, if_pos rfl, List.map_cons, List.map_cons, ih]; rfl
              | false => rw [if_neg (by decide), if_neg (by decide), ih]
          unfold Dl.signs
          rw [em]
          refine ⟨sm0, ?_, ?_⟩
          · have hc : ∀ c ∈ z.cps.toList, c < 1114112 := by
              have q : ∀ (i : Nat) (h : i < z.cps.size), z.cps[i] < 1114112 := by simpa [okL, PyData.strOk] using hx.1
              intro c hc
              obtain ⟨i, hi, rfl⟩ := Array.mem_iff_getElem.mp (Array.mem_toList_iff.mp hc)
              exact q i hi
            have l1 := one_lay (l := z.cps.toList.filter fun c => !isLow c) fun c h => hc c (List.mem_filter.mp h).1
            unfold eqOk
            rw [show PyData.canLay0 (.list ((z.cps.toList.filter fun c => !isLow c).map fun c => PyData.str ⟨#[c]⟩)) = true from l1]
            simp [PyData.canLay0, PyData.canLayAll0, PyData.depth, PyData.depthAll]
          · refine qcast h ?_
            have h1' : 1 ≤ z.length := by omega
            have h2' : z.length ≤ 8 := by omega
            cases hl : z.cps.toList.filter fun c => !isLow c with
            | nil =>
              have : z.cps.toList.all isLow = true := by
                rw [List.all_eq_true]
                intro c hc
                have := List.filter_eq_nil_iff.mp hl c hc
                simpa using this
              simp [isName, isNameS, hw, h1', h2', PyData.eqv, PyData.eqvAll, this]
            | cons c l =>
              have : z.cps.toList.all isLow = false := by
                rw [List.all_eq_false]
                have m : c ∈ z.cps.toList.filter fun c => !isLow c := by rw [hl]; exact List.mem_cons_self
                exact ⟨c, (List.mem_filter.mp m).1, by simpa using (List.mem_filter.mp m).2⟩
              simp [isName, isNameS, hw, h1', h2', PyData.eqv, PyData.eqvAll, this]
    | _ => exact h
theorem weight_mem : ∀ {ds : List PyData} {d : PyData}, d ∈ ds → d.weight ≤ PyData.weightAll ds
  | x :: xs, d, m => by
    simp only [PyData.weightAll]
    rcases List.mem_cons.mp m with e | m
    · rw [e]; omega
    · have := weight_mem m; omega
theorem length_weight : ∀ (ds : List PyData), ds.length ≤ PyData.weightAll ds
  | [] => Nat.le_refl _
  | x :: xs => by
    have := length_weight xs
    simp only [PyData.weightAll, List.length_cons]
    omega
theorem okT_mem {ds : List PyData} {d : PyData} (h : okT (.tuple ds)) (m : d ∈ ds) : okT d := by
  refine ⟨okLA_iff.mp h.1 d m, Nat.le_trans (weight_mem m) ?_⟩
  have := h.2
  simpa [PyData.weight] using this
theorem okT_len {ds : List PyData} (h : okT (.tuple ds)) : ds.length ≤ 16000000 := by
  have := h.2
  simp only [PyData.weight] at this
  exact Nat.le_trans (length_weight ds) this
def ksP : List Str := ["is", "has", "from", "to"]
def ihD : List PyData := [.str "is", .str "has"]
def isPiece (t : Str) : List PyData → Bool
  | [n, y] => ksP.contains t && isName n && (if inD (.str t) ihD = true then isName y else isWithin y 0 1000000)
  | _ => false
theorem piece2 (t : Str) (n y : PyData) : isPiece t [n, y] = (ksP.contains t && isName n && (if inD (.str t) ihD = true then isName y else isWithin y 0 1000000)) := rfl
/-- a text is looked for among written ones -/
theorem in_lit {t : Str} {l : List PyData} (h : okT (.str t)) (h1 : PyData.canLayAll0 l = true) (h2 : PyData.depthAll l ≤ 64) : inOk (.str t) l = true := by
  unfold inOk
  rw [h1, show (PyData.str t).canLay0 = true from h.1]
  simp
  omega
def spPiece : SpD := fun ws M Q _ => ∃ t r, ws = [.d (.tuple (.str t :: r))] ∧ okT (.tuple (.str t :: r)) ∧ Q (.d (.bool (isPiece t r))) M
theorem spPiece_len : ∀ ws M Q E, spPiece ws M Q E → ws.length = 1 := by rintro _ _ _ _ ⟨t, r, rfl, _⟩; rfl
theorem d_is_piece {g : Gc} (T : Txt g) : Df g 4 "is_piece" ["thing"] spPiece := by
  refine df_of (k := 3) (i := i_is_piece) T.p_is_piece T.sy sc_is_piece ok_is_piece (fun _ _ _ _ _ _ us hl => match us, hl with | [_], _ => rfl) ?_ (fun Y ws M Q E F hE h => ?_)
  · exact spPiece_len
  · obtain ⟨t, r, rfl, hx, h⟩ := h
    refine ⟨_, (ss_cons (s_if (QW.pt (w_or (t_cmp (o_ne F) (q_callB F 3 c_len T.n_len (by decide +kernel) (a_cons (q_var F 0) a_nil)) q_int) (w_or (t_cmp (o_notInK F T.c_PIECES.choose_spec) (q_ix (q_var F 0) q_int) (q_ref F 1 T.c_PIECES.choose_spec)) (w_or1 (t_not (t_val (q_call F 2 (d_is_name T) (a_cons (q_ix (q_var F 0) q_int) a_nil)))))))) (ss_one (s_ret q_bool)) ss_nil) (ss_cons (s_if (t_cmp (o_in F) (q_ix (q_var F 0) q_int) (q_tup (a_cons q_str (a_cons q_str a_nil)))) (ss_one (s_ret (q_call F 2 (d_is_name T) (a_cons (q_ix (q_var F 0) q_int) a_nil)))) ss_nil) (ss_one (s_ret (q_call F 0 (d_is_number T) (a_cons (q_ix (q_var F 0) q_int) a_nil)))))), ?_⟩
    have no : isPiece t r = false → Q (.d (.bool false)) M := fun e => qcast h e
    match r, hx, h, no with
    | [], _, _, no => exact ⟨rfl, bqc true (by simp [PyData.eqv]) (no rfl)⟩
    | [a], _, _, no => exact ⟨rfl, bqc true (by simp [PyData.eqv]) (no rfl)⟩
    | a :: b :: c :: l, _, _, no => exact ⟨rfl, bqc true (by simp [PyData.eqv]; omega) (no rfl)⟩
    | [n, y], hx, h, no =>
      have ht : okT (.str t) := okT_mem hx (by simp)
      refine ⟨rfl, bqc false (by simp [PyData.eqv]) ⟨_, at0, rfl, ?_⟩⟩
      cases hk : ksP.contains t with
      | false => exact bqc true (by show (if true = true then !ksP.contains t else _) = true; rw [hk]; rfl) (no (by rw [piece2, hk]; rfl))
      | true =>
        refine bqc false (by show (if true = true then !ksP.contains t else _) = false; rw [hk]; rfl) ⟨_, at1, n, rfl, okT_mem hx (by simp), ?_⟩
        cases hn : isName n with
        | false => exact bqc false (by first | exact hn | rfl) (no (by rw [piece2, hk, hn]; rfl))
        | true =>
          refine bqc true (by first | exact hn | rfl) ⟨_, at0, sm2, in_lit ht (by decide +kernel) (by decide +kernel), ?_⟩
          cases hi : inD (.str t) ihD with
          | true => exact bqc true (by first | exact hi | rfl) ⟨_, at2, y, rfl, okT_mem hx (by simp), qcast h (by rw [piece2, hk, hn, hi]; rfl)⟩
          | false => exact bqc false (by first | exact hi | rfl) ⟨_, at2, y, rfl, trivial, qcast h (by rw [piece2, hk, hn, hi]; rfl)⟩
end Ms
set_option Elab.async false
set_option linter.all false
set_option maxRecDepth 100000
namespace Ms
open PySem PySem.Spec PyProof.Rows L2 Dl
def joinD : List PyData := [.str "and", .str "or"]
def anyD : List PyData := [.str "any", .str "every"]
/-- how many all of them have, two to six -/
def sumP (f : PyData → Option Nat) (ps : List PyData) : Option Nat :=
  if (decide (2 ≤ ps.length) && decide (ps.length ≤ 6)) = true then (if (ps.all fun p => (f p).isSome) = true then some (ps.map fun p => (f p).getD 0).sum else none) else none
def joinP (f : PyData → Option Nat) : PyData → Option Nat
  | .tuple ps => sumP f ps
  | _ => none
def pcsRest (f : Bool → PyData → Option Nat) (w : Bool) (t : Str) : List PyData → Option Nat
  | [y] => if PyData.eqv (.str t) (.str "not") = true then f w y else if inD (.str t) joinD = true then joinP (f w) y else none
  | [n, y] => if (inD (.str t) anyD && isName n && !w) = true then f true y else none
  | _ => none
def pcsStep (f : Bool → PyData → Option Nat) (w : Bool) (t : Str) (r : List PyData) : Option Nat := if isPiece t r = true then some 1 else pcsRest f w t r
/-- how many pieces a condition has -/
def pcs : Nat → Bool → PyData → Option Nat
  | 0, _, _ => none
  | d + 1, w, x => match x with
    | .tuple (.str t :: r) => pcsStep (pcs d) w t r
    | _ => none
def optD : Option Nat → PyData
  | none => .none
  | some n => .int n
def partsP (d : Nat) (w : Bool) : PyData → Option Nat := joinP (pcs d w)
def spIn (n : Nat) : SpD := fun ws M Q _ => ∃ (x : PyData) (d : Nat) (w : Bool), ws = [.d x, .d (.int d), .d (.bool w)] ∧ d ≤ n ∧ okT x ∧ Q (.d (optD (pcs d w x))) M
def spParts (n : Nat) : SpD := fun ws M Q _ => ∃ (x : PyData) (d : Nat) (w : Bool), ws = [.d x, .d (.int d), .d (.bool w)] ∧ d ≤ n ∧ okT x ∧ Q (.d (optD (partsP d w x))) M
def spIn' : Nat → SpD | 0 => spNo | n + 1 => spIn n
def spParts' : Nat → SpD | 0 => spNo | n + 1 => spParts n
theorem spIn_len {n} : ∀ ws M Q E, spIn n ws M Q E → ws.length = 3 := by rintro _ _ _ _ ⟨x, d, w, rfl, _⟩; rfl
theorem spParts_len {n} : ∀ ws M Q E, spParts n ws M Q E → ws.length = 3 := by rintro _ _ _ _ ⟨x, d, w, rfl, _⟩; rfl
theorem ocast {Q : W → MH → Prop} {M : MH} {a b : Option Nat} (h : Q (.d (optD a)) M) (e : a = b) : Q (.d (optD b)) M := by rw [← e]; exact h
theorem opt_lay : ∀ l : List (Option Nat), PyData.canLayAll0 (l.map optD) = true ∧ PyData.depthAll (l.map optD) = 0
  | [] => ⟨rfl, rfl⟩
  | o :: l => by
    obtain ⟨h1, h2⟩ := opt_lay l
    cases o <;> exact ⟨by simp [PyData.canLayAll0, PyData.canLay0, optD, h1], by simp [PyData.depthAll, PyData.depth, optD, h2]⟩
theorem opt_in : ∀ l : List (Option Nat), inD .none (l.map optD) = !l.all (·.isSome)
  | [] => rfl
  | o :: l => by
    have := opt_in l
    unfold inD at this ⊢
    rw [List.map_cons, List.any_cons, this]
    cases o <;> simp [optD, PyData.eqv]
theorem opt_ints : ∀ l : List (Option Nat), l.all (·.isSome) = true → intsD (l.map optD) = some (l.map fun o => ((o.getD 0 : Nat) : Int))
  | [], _ => rfl
  | none :: l, h => by simp at h
  | some n :: l, h => by
    have := opt_ints l (by simpa using h)
    show (intsD (l.map optD)).map _ = _
    rw [this]
    rfl
theorem opt_sum : ∀ l : List (Option Nat), (l.map fun o => ((o.getD 0 : Nat) : Int)).sum = (((l.map fun o => o.getD 0).sum : Nat) : Int)
  | [] => rfl
  | o :: l => by
    rw [List.map_cons, List.map_cons, List.sum_cons, List.sum_cons, opt_sum l]
    omega
theorem parts_of {g : Gc} (T : Txt g) (n : Nat) (DI : Df g (5 + 2 * n) "pieces_in" ["thing", "deep", "within"] (spIn n)) : Df g (5 + 2 * n + 1) "pieces_of_parts" ["parts", "deep", "within"] (spParts n) := by
  refine df_of (k := 5 + 2 * n) (i := i_pieces_of_parts) T.p_pieces_of_parts T.sy sc_pieces_of_parts ok_pieces_of_parts (fun _ _ _ _ _ _ us hl => match us, hl with | [_, _, _], _ => rfl) spParts_len (fun Y ws M Q E F hE h => ?_)
  obtain ⟨x, d, w, rfl, hd, hx, h⟩ := h
  refine ⟨_, (ss_cons (s_if (QW.pt (w_or (t_not (t_val (q_isi F 1 2 isk_tuple T.n_isinstance T.n_tuple (by decide +kernel) (q_var F 0)))) (w_or1 (t_not (t_chn o_le o_le q_int (q_callB F 4 c_len T.n_len (by decide +kernel) (a_cons (q_var F 0) a_nil)) (q_cst F 3 T.c_MOST_PARTS)))))) (ss_one (s_ret q_none)) ss_nil) (ss_cons (s_setlc (own := [("part", 4)]) F 3 ⟨_, ["parts", "deep", "within", "found", "part"], [4, 1, 2], [4], [], ["pieces_in"], false, true⟩ (.one 4) ⟨rfl, rfl, ⟨rfl, by decide +kernel, by decide +kernel, by decide +kernel, by decide +kernel⟩, by decide +kernel, by decide +kernel, rfl, rfl⟩ (by decide) (i_tup (q_var F 0)) (fun _ F hw => ⟨(pgN F 4), ts_nil, (q_callW hw F 0 DI (a_cons (q_var F 4) (a_cons (q_var F 1) (a_cons (q_var F 2) a_nil))))⟩)) (ss_one (s_ret (q_ite (t_cmp (o_in F) q_none (q_var F 3)) q_none (q_callB F 0 (c_sum F) T.n_sum (by decide +kernel) (a_cons (q_var F 3) a_nil))))))), ?_⟩
  cases x with
  | tuple ps =>
    have no : sumP (pcs d w) ps = none → Q (.d .none) M := fun e => ocast h e
    by_cases h1 : (2 : Int) ≤ (ps.length : Int)
    case neg =>
      refine ifD (fun c => absurd c h1) (fun _ => ?_)
      exact no (by unfold sumP; rw [if_neg]; simp; omega)
    refine ifD (fun _ => ?_) (fun c => absurd h1 c)
    dsimp only [tK, rInt0, k_MOST_PARTS]
    by_cases h2 : (ps.length : Int) ≤ 6
    case neg =>
      refine bqc false (decide_eq_false h2) ?_
      exact no (by unfold sumP; rw [if_neg]; simp; omega)
    refine bqc true (decide_eq_true h2) ?_
    refine lcA (T := .one 4) (fun v => match v with | .d p => optD (pcs d w p) | _ => .none) ?_ (fun _ _ _ => trivial) ?_ ?_
    · simpa using okT_len hx
    · intro v hv M2 _ R r
      obtain ⟨p, hp, rfl⟩ := List.mem_map.mp hv
      exact ⟨p, d, w, rfl, hd, okT_mem hx hp, r⟩
    · have e : (ps.map W.d).map (fun v => match v with | .d p => optD (pcs d w p) | _ => .none) = (ps.map (pcs d w)).map optD := by
        rw [List.map_map, List.map_map]
        rfl
      rw [e]
      obtain ⟨b1, b2⟩ := opt_lay (ps.map (pcs d w))
      have two : (decide (2 ≤ ps.length) && decide (ps.length ≤ 6)) = true := by simp; omega
      have al : (ps.map (pcs d w)).all (·.isSome) = ps.all fun p => (pcs d w p).isSome := by rw [List.all_map]; rfl
      refine ⟨by unfold inOk; rw [b1, b2]; simp [PyData.canLay0, PyData.depth], ?_⟩
      have ei := opt_in (ps.map (pcs d w))
      cases ha : (ps.map (pcs d w)).all (·.isSome) with
      | false =>
        rw [ha] at ei
        refine bqc true (by show (if false = true then _ else inD .none _) = true; rw [ei]; rfl) ?_
        exact no (by unfold sumP; rw [if_pos two, ← al, ha]; rfl)
      | true =>
        rw [ha] at ei
        refine bqc false (by show (if false = true then _ else inD .none _) = false; rw [ei]; rfl) ?_
        show (match intsD ((ps.map (pcs d w)).map optD) with | some ns => Q (.d (.int ns.sum)) M | none => False)
        rw [opt_ints _ ha]
        show Q (.d (.int _)) M
        rw [opt_sum]
        have z : sumP (pcs d w) ps = some (((ps.map (pcs d w)).map fun o => o.getD 0).sum) := by
          unfold sumP
          rw [if_pos two, ← al, ha, List.map_map]
          rfl
        exact ocast h z
  | _ => exact h
theorem in_of {g : Gc} (T : Txt g) (n m1 m2 : Nat) (l1 : m1 ≤ 4 + 2 * n) (l2 : m2 ≤ 4 + 2 * n) (DI : Df g m1 "pieces_in" ["thing", "deep", "within"] (spIn' n)) (DP : Df g m2 "pieces_of_parts" ["parts", "deep", "within"] (spParts' n)) : Df g (4 + 2 * n + 1) "pieces_in" ["thing", "deep", "within"] (spIn n) := by
  refine df_of (k := 4 + 2 * n) (i := i_pieces_in) T.p_pieces_in T.sy sc_pieces_in ok_pieces_in (fun _ _ _ _ _ _ us hl => match us, hl with | [_, _, _], _ => rfl) spIn_len (fun Y ws M Q E F hE h => ?_)
  obtain ⟨x, d, w, rfl, hd, hx, h⟩ := h
  refine ⟨_, (ss_cons (s_if (QW.pt (w_or (t_cmp o_lt (q_var F 1) q_int) (w_or (t_not (t_val (q_isi F 4 5 isk_tuple T.n_isinstance T.n_tuple (by decide +kernel) (q_var F 0)))) (w_or (t_cmp (o_eq F) (q_var F 0) (q_tup a_nil)) (w_or1 (t_not (t_val (q_isi F 4 6 isk_str T.n_isinstance T.n_str (by decide +kernel) (q_ix (q_var F 0) q_int))))))))) (ss_one (s_ret q_none)) ss_nil) (ss_cons (s_if (t_val (q_call F 0 (d_is_piece T) (a_cons (q_var F 0) a_nil))) (ss_one (s_ret q_int)) ss_nil) (ss_cons (s_if (QW.pt (w_and (t_cmp (o_eq F) (q_ix (q_var F 0) q_int) q_str) (w_and1 (t_cmp (o_eq F) (q_callB F 7 c_len T.n_len (by decide +kernel) (a_cons (q_var F 0) a_nil)) q_int)))) (ss_one (s_ret (q_call F 1 DI (a_cons (q_ix (q_var F 0) q_int) (a_cons (q_bin o_sub (q_var F 1) q_int) (a_cons (q_var F 2) a_nil)))))) ss_nil) (ss_cons (s_if (QW.pt (w_and (t_cmp (o_in F) (q_ix (q_var F 0) q_int) (q_tup (a_cons q_str (a_cons q_str a_nil)))) (w_and1 (t_cmp (o_eq F) (q_callB F 7 c_len T.n_len (by decide +kernel) (a_cons (q_var F 0) a_nil)) q_int)))) (ss_one (s_ret (q_call F 2 DP (a_cons (q_ix (q_var F 0) q_int) (a_cons (q_bin o_sub (q_var F 1) q_int) (a_cons (q_var F 2) a_nil)))))) ss_nil) (ss_cons (s_if (QW.pt (w_and (t_cmp (o_in F) (q_ix (q_var F 0) q_int) (q_tup (a_cons q_str (a_cons q_str a_nil)))) (w_and (t_cmp (o_eq F) (q_callB F 7 c_len T.n_len (by decide +kernel) (a_cons (q_var F 0) a_nil)) q_int) (w_and (t_val (q_call F 3 (d_is_name T) (a_cons (q_ix (q_var F 0) q_int) a_nil))) (w_and1 (t_not (t_val (q_var F 2)))))))) (ss_one (s_ret (q_call F 1 DI (a_cons (q_ix (q_var F 0) q_int) (a_cons (q_bin o_sub (q_var F 1) q_int) (a_cons q_bool a_nil)))))) ss_nil) (ss_one (s_ret q_none))))))), ?_⟩
  cases d with
  | zero =>
    exact h
  | succ d =>
    have no : pcs (d + 1) w x = none → Q (.d .none) M := fun e => ocast h e
    obtain ⟨n, rfl⟩ : ∃ n', n = n' + 1 := ⟨n - 1, by omega⟩
    generalize hde : ((d + 1 : Nat) : Int) = de
    refine ifD (fun c => ?_) (fun _ => ?_)
    · exact absurd (show de < 1 from c) (by omega)
    cases x with
    | tuple xs =>
      refine ⟨sm0, by simp [eqOk, isTup], ?_⟩
      match xs, hx, h, no with
      | [], _, _, no => exact bqc true (eqv_tup_nil (xs := [])) (no rfl)
      | t :: r, hx, h, no =>
        refine bqc false (eqv_tup_nil (xs := t :: r)) ⟨_, at0, ?_⟩
        cases t with
        | str t =>
          refine ⟨t, r, rfl, hx, ?_⟩
          cases hp : isPiece t r with
          | true => exact bqc true (by first | exact hp | rfl) (show Q (.d (.int 1)) M from ocast h (show pcsStep (pcs d) w t r = some 1 by unfold pcsStep; rw [if_pos hp]))
          | false =>
            have ht : okT (.str t) := okT_mem hx List.mem_cons_self
            have ps : pcs (d + 1) w (.tuple (.str t :: r)) = pcsRest (pcs d) w t r := by
              show pcsStep (pcs d) w t r = _
              unfold pcsStep
              rw [if_neg (by rw [hp]; exact Bool.false_ne_true)]
            rw [ps] at no
            have h : Q (.d (optD (pcsRest (pcs d) w t r))) M := ocast h ps
            clear ps
            refine bqc false (by first | exact hp | rfl) ?_
            have j1 : inOk (.str t) joinD = true := in_lit ht (by decide +kernel) (by decide +kernel)
            have j2 : inOk (.str t) anyD = true := in_lit ht (by decide +kernel) (by decide +kernel)
            rw [if_neg Bool.false_ne_true]
            dsimp only [tNxt]
            refine sq_cut (fun σ M' => σ = [some (.d (.tuple (.str t :: r))), some (.d (.int de)), some (.d (.bool w))] ∧ M = M' ∧ ∀ y, r = [y] → PyData.eqv (.str t) (.str "not") = false) (fun N hN => ?_) ?_
            · refine ⟨_, at0, rfl, ?_⟩
              cases hn : PyData.eqv (.str t) (.str "not") with
              | false => exact bqc false (by first | exact hn | rfl) (hN _ _ ⟨rfl, rfl, fun _ _ => hn⟩)
              | true =>
                refine bqc true (by first | exact hn | rfl) ?_
                rcases r with _ | ⟨y, _ | ⟨z, l⟩⟩
                · exact ⟨rfl, bqc false (by simp [PyData.eqv]) (hN _ _ ⟨rfl, rfl, fun y e => by cases e⟩)⟩
                · refine ⟨rfl, bqc true (by simp [PyData.eqv]) ⟨_, at1, y, d, w, ?_, by omega, okT_mem hx (by simp), ocast h ?_⟩⟩
                  · show [W.d y, .d (.int (de - 1)), .d (.bool w)] = _
                    rw [show de - 1 = (d : Int) by omega]
                  · show (if PyData.eqv (.str t) (.str "not") = true then pcs d w y else _) = _
                    rw [if_pos hn]
                · exact ⟨rfl, bqc false (by simp [PyData.eqv]; omega) (hN _ _ ⟨rfl, rfl, fun y e => by cases e⟩)⟩
            · rintro _ _ ⟨rfl, rfl, q1⟩
              refine sq_cut (fun σ M' => σ = [some (.d (.tuple (.str t :: r))), some (.d (.int de)), some (.d (.bool w))] ∧ M = M' ∧ ∀ y, r = [y] → pcsRest (pcs d) w t [y] = none) (fun N hN => ?_) ?_
              · refine ⟨_, at0, sm2, j1, ?_⟩
                cases hj : inD (.str t) joinD with
                | false =>
                  refine bqc false (by first | exact hj | rfl) (hN _ _ ⟨rfl, rfl, fun y e => ?_⟩)
                  show (if PyData.eqv (.str t) (.str "not") = true then _ else if inD (.str t) joinD = true then _ else none) = none
                  rw [q1 y e, hj]
                  first | done | rfl
                | true =>
                  refine bqc true (by first | exact hj | rfl) ?_
                  rcases r with _ | ⟨y, _ | ⟨z, l⟩⟩
                  · exact ⟨rfl, bqc false (by simp [PyData.eqv]) (hN _ _ ⟨rfl, rfl, fun y e => by cases e⟩)⟩
                  · refine ⟨rfl, bqc true (by simp [PyData.eqv]) ⟨_, at1, y, d, w, ?_, by omega, okT_mem hx (by simp), ocast h ?_⟩⟩
                    · show [W.d y, .d (.int (de - 1)), .d (.bool w)] = _
                      rw [show de - 1 = (d : Int) by omega]
                    · show (if PyData.eqv (.str t) (.str "not") = true then pcs d w y else if inD (.str t) joinD = true then joinP (pcs d w) y else none) = _
                      rw [q1 y rfl, hj]
                      first | done | rfl
                  · exact ⟨rfl, bqc false (by simp [PyData.eqv]; omega) (hN _ _ ⟨rfl, rfl, fun y e => by cases e⟩)⟩
              · rintro _ _ ⟨rfl, rfl, q2⟩
                refine ⟨_, at0, sm2, j2, ?_⟩
                cases hy : inD (.str t) anyD with
                | false =>
                  refine bqc false (by first | exact hy | rfl) (no ?_)
                  rcases r with _ | ⟨y, _ | ⟨z, _ | ⟨u, l⟩⟩⟩
                  · rfl
                  · exact q2 y rfl
                  · show (if (inD (.str t) anyD && isName y && !w) = true then _ else none) = none
                    rw [hy]
                    rfl
                  · rfl
                | true =>
                  refine bqc true (by first | exact hy | rfl) ?_
                  rcases r with _ | ⟨y, _ | ⟨z, _ | ⟨u, l⟩⟩⟩
                  · exact ⟨rfl, bqc false (by simp [PyData.eqv]) (no rfl)⟩
                  · exact ⟨rfl, bqc false (by simp [PyData.eqv]) (no (q2 y rfl))⟩
                  · refine ⟨rfl, bqc true (by simp [PyData.eqv]) ⟨_, at1, y, rfl, okT_mem hx (by simp), ?_⟩⟩
                    have rs : pcsRest (pcs d) w t [y, z] = if (inD (.str t) anyD && isName y && !w) = true then pcs d true z else none := rfl
                    cases hm : isName y with
                    | false => exact bqc false (by first | exact hm | rfl) (no (by rw [rs, hy, hm]; rfl))
                    | true =>
                      refine bqc true (by first | exact hm | rfl) ?_
                      cases w with
                      | true => exact no (by rw [rs, hy, hm]; rfl)
                      | false =>
                        refine ⟨_, at2, z, d, true, ?_, by omega, okT_mem hx (by simp), ocast h ?_⟩
                        · show [W.d z, .d (.int (de - 1)), .d (.bool true)] = _
                          rw [show de - 1 = (d : Int) by omega]
                        · rw [rs, hy, hm]
                          rfl
                  · exact ⟨rfl, bqc false (by simp [PyData.eqv]; omega) (no rfl)⟩
        | _ => exact no rfl
    | _ => exact no rfl
theorem no_in {g : Gc} (T : Txt g) : Df g 1 "pieces_in" ["thing", "deep", "within"] (spIn' 0) := df_of (k := 0) (i := i_pieces_in) T.p_pieces_in T.sy sc_pieces_in ok_pieces_in (fun _ _ _ _ _ _ us hl => match us, hl with | [_, _, _], _ => rfl) (fun _ _ _ _ (h : False) => h.elim) (fun _ _ _ _ _ _ _ (h : False) => h.elim)
theorem no_parts {g : Gc} (T : Txt g) : Df g 1 "pieces_of_parts" ["parts", "deep", "within"] (spParts' 0) := df_of (k := 0) (i := i_pieces_of_parts) T.p_pieces_of_parts T.sy sc_pieces_of_parts ok_pieces_of_parts (fun _ _ _ _ _ _ us hl => match us, hl with | [_, _, _], _ => rfl) (fun _ _ _ _ (h : False) => h.elim) (fun _ _ _ _ _ _ _ (h : False) => h.elim)
theorem d_both {g : Gc} (T : Txt g) : ∀ n : Nat, Df g (5 + 2 * n) "pieces_in" ["thing", "deep", "within"] (spIn n) ∧ Df g (5 + 2 * n + 1) "pieces_of_parts" ["parts", "deep", "within"] (spParts n)
  | 0 => by
    have a := in_of T 0 1 1 (by omega) (by omega) (no_in T) (no_parts T)
    exact ⟨a, parts_of T 0 a⟩
  | n + 1 => by
    obtain ⟨i1, i2⟩ := d_both T n
    have a := in_of T (n + 1) (5 + 2 * n) (5 + 2 * n + 1) (by omega) (by omega) i1 i2
    have a' : Df g (5 + 2 * (n + 1)) "pieces_in" ["thing", "deep", "within"] (spIn (n + 1)) := by
      rw [show 5 + 2 * (n + 1) = 4 + 2 * (n + 1) + 1 by omega]
      exact a
    exact ⟨a', parts_of T (n + 1) a'⟩
def condO : Option Nat → Bool
  | some n => decide ((n : Int) ≤ 30)
  | none => false
/-- a condition: thirty pieces at most, six deep at most -/
def isCond (x : PyData) : Bool := condO (pcs 6 false x)
theorem d_is_condition {g : Gc} (T : Txt g) : Df g 18 "is_condition" ["thing"] (sp1 okT fun x => .bool (isCond x)) := by
  refine df_of (k := 17) (i := i_is_condition) T.p_is_condition T.sy sc_is_condition ok_is_condition (fun _ _ _ _ _ _ us hl => match us, hl with | [_], _ => rfl) ?_ (fun Y ws M Q E F hE h => ?_)
  · exact sp1_len
  · obtain ⟨x, rfl, hx, h⟩ := h
    refine ⟨_, (ss_cons (s_set (q_call F 0 (d_both T 6).1 (a_cons (q_var F 0) (a_cons (q_cst F 1 T.c_MOST_DEEP) (a_cons q_bool a_nil)))) (g_name F 1)) (ss_one (s_ret (q_and (q_cmp o_isNot (q_var F 1) q_none) (q_one (q_cmp o_le (q_var F 1) (q_cst F 2 T.c_MOST_PIECES))))))), ?_⟩
    have h : Q (.d (.bool (condO (pcs 6 false x)))) M := h
    refine ⟨x, 6, false, rfl, Nat.le_refl _, hx, ?_⟩
    cases hp : pcs 6 false x with
    | none =>
      rw [hp] at h
      exact h
    | some n =>
      rw [hp] at h
      exact h
end Ms
set_option Elab.async false
set_option linter.all false
set_option maxRecDepth 100000
namespace Ms
open PySem PySem.Spec PyProof.Rows L2 Dl
theorem inD_strs (z : Str) : ∀ zs : List Str, inD (.str z) (zs.map PyData.str) = decide (z ∈ zs)
  | [] => by simp [inD]
  | x :: zs => by
    have := inD_strs z zs
    unfold inD at this ⊢
    rw [List.map_cons, List.any_cons, this]
    by_cases e : x = z
    · subst e; simp [PyData.eqv]
    · have e' : z ≠ x := fun q => e q.symm
      simp [PyData.eqv, e, e']
def lawN : Option Nat → Nat
  | some n => min 99 n
  | none => 99
def ftD : List PyData := [.str "from", .str "to"]
def nao : List PyData := [.str "not", .str "and", .str "or"]
theorem t_in {t : Str} {zs : List Str} (h : inD (.str t) (zs.map PyData.str) = true) : t ∈ zs := by
  rw [inD_strs] at h
  exact of_decide_eq_true h
theorem ih_is {t : Str} (h : inD (.str t) ihD = true) : t = "is" ∨ t = "has" := by simpa using t_in (zs := ["is", "has"]) h
theorem ft_is {t : Str} (h : inD (.str t) ftD = true) : t = "from" ∨ t = "to" := by simpa using t_in (zs := ["from", "to"]) h
theorem ih_ks {t : Str} (h : inD (.str t) ihD = true) : ksP.contains t = true := by rcases ih_is h with rfl | rfl <;> decide +kernel
theorem ft_ks {t : Str} (h : inD (.str t) ftD = true) : ksP.contains t = true := by rcases ft_is h with rfl | rfl <;> decide +kernel
theorem ih_any {t : Str} (h : inD (.str t) ihD = true) : inD (.str t) anyD = false := by rcases ih_is h with rfl | rfl <;> decide +kernel
theorem ft_any {t : Str} (h : inD (.str t) ftD = true) : inD (.str t) anyD = false := by rcases ft_is h with rfl | rfl <;> decide +kernel
theorem no_ks {t : Str} (h : inD (.str t) ihD = false) (k : inD (.str t) ftD = false) : ksP.contains t = false := by
  cases e : ksP.contains t with
  | false => rfl
  | true =>
    have m : t ∈ ksP := by simpa using e
    simp only [ksP, List.mem_cons, List.not_mem_nil, or_false] at m
    rcases m with rfl | rfl | rfl | rfl
    · exact absurd h (by decide +kernel)
    · exact absurd h (by decide +kernel)
    · exact absurd k (by decide +kernel)
    · exact absurd k (by decide +kernel)
theorem nao_is {t : Str} (h : inD (.str t) nao = true) : t = "not" ∨ t = "and" ∨ t = "or" := by simpa using t_in (zs := ["not", "and", "or"]) h
theorem nao_join {t : Str} (h : inD (.str t) nao = true) (k : PyData.eqv (.str t) (.str "not") = false) : inD (.str t) joinD = true := by
  rcases nao_is h with rfl | rfl | rfl
  · exact absurd k (by decide +kernel)
  · decide +kernel
  · decide +kernel
theorem nao_no {t : Str} (h : inD (.str t) nao = false) : PyData.eqv (.str t) (.str "not") = false ∧ inD (.str t) joinD = false := by
  constructor
  · cases e : PyData.eqv (.str t) (.str "not") with
    | false => rfl
    | true =>
      have : t = "not" := by simpa [PyData.eqv] using e
      subst this
      exact absurd h (by decide +kernel)
  · cases e : inD (.str t) joinD with
    | false => rfl
    | true =>
      have := t_in (zs := ["and", "or"]) e
      simp only [List.mem_cons, List.not_mem_nil, or_false] at this
      rcases this with rfl | rfl <;> exact absurd h (by decide +kernel)
theorem neD_int {a b : Int} : neOk (.int a) (.int b) = true := by simp [neOk, PyData.canLay0, PyData.depth]
theorem sum_law (f : PyData → Option Nat) : ∀ zs : List PyData, zs ≠ [] → min 99 (zs.map fun p => lawN (f p)).sum = lawN (if (zs.all fun p => (f p).isSome) = true then some (zs.map fun p => (f p).getD 0).sum else none) ∧
    min 99 (zs.map fun p => ((lawN (f p) : Nat) : Int)).sum = ((min 99 (zs.map fun p => lawN (f p)).sum : Nat) : Int) := by
  intro zs _
  constructor
  · induction zs with
    | nil => rfl
    | cons z zs ih =>
      cases hz : f z with
      | none => simp [hz, lawN]
      | some n =>
        by_cases ha : (zs.all fun p => (f p).isSome) = true
        · rw [if_pos ha] at ih
          rw [if_pos (by rw [List.all_cons, hz, ha]; rfl)]
          simp only [List.map_cons, List.sum_cons, hz, Option.getD_some, lawN] at ih ⊢
          by_cases h0 : zs = []
          · subst h0; simp
          · have := ih h0
            omega
        · rw [if_neg ha] at ih
          rw [if_neg (by rw [List.all_cons, hz]; simpa using ha)]
          by_cases h0 : zs = []
          · subst h0; exact absurd rfl ha
          · have := ih h0
            simp only [List.map_cons, List.sum_cons, hz, lawN] at this ⊢
            omega
  · have : ∀ l : List PyData, (l.map fun p => ((lawN (f p) : Nat) : Int)).sum = (((l.map fun p => lawN (f p)).sum : Nat) : Int) := by
      intro l
      induction l with
      | nil => rfl
      | cons z l ih => rw [List.map_cons, List.map_cons, List.sum_cons, List.sum_cons, ih]; omega
    rw [this]
    omega
def spLP : Nat → SpD
  | 0 => spNo
  | n + 1 => fun ws M Q _ => ∃ (x : PyData) (d : Nat) (w : Bool), ws = [.d x, .d (.int d), .d (.bool w)] ∧ d ≤ n ∧ okT x ∧ Q (.d (.int (lawN (pcs d w x)))) M
theorem spLP_len {n} : ∀ ws M Q E, spLP n ws M Q E → ws.length = 3 := by
  cases n with
  | zero => intro _ _ _ _ h; exact h.elim
  | succ n => rintro _ _ _ _ ⟨x, d, w, rfl, _⟩; rfl
theorem ncast {Q : W → MH → Prop} {M : MH} {a b : Nat} (h : Q (.d (.int a)) M) (e : a = b) : Q (.d (.int b)) M := by rw [← e]; exact h
theorem d_L_pieces {g : Gc} (T : Txt g) : ∀ n : Nat, Df g (3 + n) "_law_pieces" ["_law_thing", "_law_deep", "_law_within"] (spLP n)
  | 0 => df_of (k := 2) (i := i_L_pieces) T.p_L_pieces T.sy sc_L_pieces ok_L_pieces (fun _ _ _ _ _ _ us hl => match us, hl with | [_, _, _], _ => rfl) (fun _ _ _ _ (h : False) => h.elim) (fun _ _ _ _ _ _ _ (h : False) => h.elim)
  | n + 1 => by
    refine df_of (k := 3 + n) (i := i_L_pieces) T.p_L_pieces T.sy sc_L_pieces ok_L_pieces (fun _ _ _ _ _ _ us hl => match us, hl with | [_, _, _], _ => rfl) ?_ (fun Y ws M Q E F hE h => ?_)
    · exact spLP_len
    · obtain ⟨x, d, w, rfl, hd, hx, h⟩ := h
      refine ⟨_, (ss_cons (s_if (QW.pt (w_or (t_cmp o_lt (q_var F 1) q_int) (w_or (t_not (t_val (q_isi F 4 5 isk_tuple T.n_isinstance T.n_tuple (by decide +kernel) (q_var F 0)))) (w_or (t_cmp o_lt (q_callB F 6 c_len T.n_len (by decide +kernel) (a_cons (q_var F 0) a_nil)) q_int) (w_or1 (t_not (t_val (q_isi F 4 7 isk_str T.n_isinstance T.n_str (by decide +kernel) (q_ix (q_var F 0) q_int))))))))) (ss_one (s_ret q_int)) ss_nil) (ss_cons (s_if (QW.pt (w_and (t_cmp (o_in F) (q_ix (q_var F 0) q_int) (q_tup (a_cons q_str (a_cons q_str a_nil)))) (w_and1 (t_cmp (o_eq F) (q_callB F 6 c_len T.n_len (by decide +kernel) (a_cons (q_var F 0) a_nil)) q_int)))) (ss_one (s_ret (q_ite (QW.pt (w_and (t_val (q_call F 1 (d_L_is_name T) (a_cons (q_ix (q_var F 0) q_int) a_nil))) (w_and1 (t_val (q_call F 1 (d_L_is_name T) (a_cons (q_ix (q_var F 0) q_int) a_nil)))))) q_int q_int))) ss_nil) (ss_cons (s_if (QW.pt (w_and (t_cmp (o_in F) (q_ix (q_var F 0) q_int) (q_tup (a_cons q_str (a_cons q_str a_nil)))) (w_and1 (t_cmp (o_eq F) (q_callB F 6 c_len T.n_len (by decide +kernel) (a_cons (q_var F 0) a_nil)) q_int)))) (ss_one (s_ret (q_ite (QW.pt (w_and (t_val (q_call F 1 (d_L_is_name T) (a_cons (q_ix (q_var F 0) q_int) a_nil))) (w_and1 (t_val (q_call F 8 (d_L_is_within T) (a_cons (q_ix (q_var F 0) q_int) (a_cons q_int (a_cons (q_bin o_pow q_int q_int) a_nil)))))))) q_int q_int))) ss_nil) (ss_cons (s_if (QW.pt (w_and (t_cmp (o_in F) (q_ix (q_var F 0) q_int) (q_tup (a_cons q_str (a_cons q_str a_nil)))) (w_and (t_cmp (o_eq F) (q_callB F 6 c_len T.n_len (by decide +kernel) (a_cons (q_var F 0) a_nil)) q_int) (w_and (t_val (q_call F 1 (d_L_is_name T) (a_cons (q_ix (q_var F 0) q_int) a_nil))) (w_and1 (t_not (t_val (q_var F 2)))))))) (ss_one (s_ret (q_call F 2 (d_L_pieces T n) (a_cons (q_ix (q_var F 0) q_int) (a_cons (q_bin o_sub (q_var F 1) q_int) (a_cons q_bool a_nil)))))) ss_nil) (ss_cons (s_if (QW.pt (w_or (t_cmp (o_ne F) (q_callB F 6 c_len T.n_len (by decide +kernel) (a_cons (q_var F 0) a_nil)) q_int) (w_or1 (t_cmp (o_notIn F) (q_ix (q_var F 0) q_int) (q_tup (a_cons q_str (a_cons q_str (a_cons q_str a_nil)))))))) (ss_one (s_ret q_int)) ss_nil) (ss_cons (s_if (t_cmp (o_eq F) (q_ix (q_var F 0) q_int) q_str) (ss_one (s_ret (q_call F 2 (d_L_pieces T n) (a_cons (q_ix (q_var F 0) q_int) (a_cons (q_bin o_sub (q_var F 1) q_int) (a_cons (q_var F 2) a_nil)))))) ss_nil) (ss_cons (s_if (QW.pt (w_or (t_not (t_val (q_isi F 4 5 isk_tuple T.n_isinstance T.n_tuple (by decide +kernel) (q_ix (q_var F 0) q_int)))) (w_or1 (t_not (t_chn o_le o_le q_int (q_callB F 6 c_len T.n_len (by decide +kernel) (a_cons (q_ix (q_var F 0) q_int) a_nil)) q_int))))) (ss_one (s_ret q_int)) ss_nil) (ss_one (s_ret (q_callB F 0 (c_min F) T.n_min (by decide +kernel) (a_cons q_int (a_cons (q_callB F 3 (c_sum F) T.n_sum (by decide +kernel) (a_cons (q_lc (own := [("_law_part", 3)]) F ⟨_, ["_law_thing", "_law_deep", "_law_within", "_law_part"], [3, 2, 1], [3], [], ["_law_pieces"], false, true⟩ (.one 3) ⟨rfl, rfl, ⟨rfl, by decide +kernel, by decide +kernel, by decide +kernel, by decide +kernel⟩, by decide +kernel, by decide +kernel, rfl, rfl⟩ (by decide) (i_tup (q_ix (q_var F 0) q_int)) (fun _ F hw => ⟨(pgN F 3), ts_nil, (q_callW hw F 0 (d_L_pieces T n) (a_cons (q_var F 3) (a_cons (q_bin o_sub (q_var F 1) q_int) (a_cons (q_var F 2) a_nil))))⟩)) a_nil)) a_nil)))))))))))), ?_⟩
      cases d with
      | zero => exact h
      | succ d =>
        have no : pcs (d + 1) w x = none → Q (.d (.int 99)) M := fun e => ncast h (by rw [e]; rfl)
        obtain ⟨n, rfl⟩ : ∃ n', n = n' + 1 := ⟨n - 1, by omega⟩
        generalize hde : ((d + 1 : Nat) : Int) = de
        refine ifD (fun c => ?_) (fun _ => ?_)
        · exact absurd (show de < 1 from c) (by omega)
        cases x with
        | tuple xs =>
          refine ifD (fun c => ?_) (fun c => ?_)
          · have c : (xs.length : Int) < 2 := c
            refine no ?_
            match xs, c with
            | [], _ => rfl
            | [t], _ =>
              cases t with
              | str t => exact (show pcsStep (pcs d) w t [] = none from rfl)
              | _ => rfl
            | a :: b :: l, c => exact absurd c (by simp; omega)
          have c : ¬ (xs.length : Int) < 2 := c
          match xs, hx, h, no, c with
          | [], _, _, _, c => exact absurd (show ((0 : Nat) : Int) < 2 by decide) c
          | [_], _, _, _, c => exact absurd (show ((1 : Nat) : Int) < 2 by decide) c
          | t :: y :: r, hx, h, no, _ =>
            refine ⟨_, at0, ?_⟩
            cases t with
            | str t =>
              have ht : okT (.str t) := okT_mem hx List.mem_cons_self
              have j0 : inOk (.str t) ihD = true := in_lit ht (by decide +kernel) (by decide +kernel)
              have j1 : inOk (.str t) ftD = true := in_lit ht (by decide +kernel) (by decide +kernel)
              have j2 : inOk (.str t) anyD = true := in_lit ht (by decide +kernel) (by decide +kernel)
              have j3 : inOk (.str t) nao = true := in_lit ht (by decide +kernel) (by decide +kernel)
              have ps : pcs (d + 1) w (.tuple (.str t :: y :: r)) = pcsStep (pcs d) w t (y :: r) := rfl
              have p6 : powOk 10 6 := powOk_of (n := 4) (by decide) (by decide) (by decide)
              refine bqc true rfl (iteF ?_)
              dsimp only [tNxt]
              refine sq_cut (fun σ M' => σ = [some (.d (.tuple (.str t :: y :: r))), some (.d (.int de)), some (.d (.bool w)), none] ∧ M = M' ∧ (∀ z, r = [z] → inD (.str t) ihD = false)) (fun N hN => ?_) ?_
              · refine ⟨_, at0, sm2, j0, ?_⟩
                cases ha : inD (.str t) ihD with
                | false => exact bqc false (by first | exact ha | rfl) (hN _ _ ⟨rfl, rfl, fun _ _ => ha⟩)
                | true =>
                  refine bqc true (by first | exact ha | rfl) ?_
                  rcases r with _ | ⟨z, _ | ⟨u, l⟩⟩
                  · exact ⟨rfl, bqc false (by simp [PyData.eqv]) (hN _ _ ⟨rfl, rfl, fun _ e => by cases e⟩)⟩
                  · refine ⟨rfl, bqc true (by simp [PyData.eqv]) ⟨_, at1, y, rfl, okT_mem hx (by simp), ?_⟩⟩
                    have e1 : pcs (d + 1) w (.tuple [.str t, y, z]) = if (isName y && isName z) = true then some 1 else none := by
                      rw [ps]
                      unfold pcsStep
                      rw [piece2, ih_ks ha, ha]
                      show (if (true && isName y && isName z) = true then _ else if (inD (.str t) anyD && isName y && !w) = true then _ else none) = _
                      rw [ih_any ha]
                      simp
                    cases hn : isName y with
                    | false => exact bqc false (by first | exact hn | rfl) (no (by rw [e1, hn]; rfl))
                    | true =>
                      refine bqc true (by first | exact hn | rfl) ⟨_, at2, z, rfl, okT_mem hx (by simp), ?_⟩
                      cases hm : isName z with
                      | false => exact bqc false (by first | exact hm | rfl) (no (by rw [e1, hn, hm]; rfl))
                      | true => exact bqc true (by first | exact hm | rfl) (ncast h (by rw [e1, hn, hm]; rfl))
                  · exact ⟨rfl, bqc false (by simp [PyData.eqv]; omega) (hN _ _ ⟨rfl, rfl, fun _ e => by cases e⟩)⟩
              rintro _ _ ⟨rfl, rfl, q1⟩
              refine sq_cut (fun σ M' => σ = [some (.d (.tuple (.str t :: y :: r))), some (.d (.int de)), some (.d (.bool w)), none] ∧ M = M' ∧ (∀ z, r = [z] → isPiece t [y, z] = false)) (fun N hN => ?_) ?_
              · refine ⟨_, at0, sm2, j1, ?_⟩
                cases ha : inD (.str t) ftD with
                | false =>
                  refine bqc false (by first | exact ha | rfl) (hN _ _ ⟨rfl, rfl, fun z e => ?_⟩)
                  rw [piece2, no_ks (q1 z e) ha]
                  rfl
                | true =>
                  refine bqc true (by first | exact ha | rfl) ?_
                  rcases r with _ | ⟨z, _ | ⟨u, l⟩⟩
                  · exact ⟨rfl, bqc false (by simp [PyData.eqv]) (hN _ _ ⟨rfl, rfl, fun _ e => by cases e⟩)⟩
                  · refine ⟨rfl, bqc true (by simp [PyData.eqv]) ⟨_, at1, y, rfl, okT_mem hx (by simp), ?_⟩⟩
                    have e1 : pcs (d + 1) w (.tuple [.str t, y, z]) = if (isName y && isWithin z 0 1000000) = true then some 1 else none := by
                      rw [ps]
                      unfold pcsStep
                      rw [piece2, ft_ks ha, q1 z rfl]
                      show (if (true && isName y && isWithin z 0 1000000) = true then _ else if (inD (.str t) anyD && isName y && !w) = true then _ else none) = _
                      rw [ft_any ha]
                      simp
                    cases hn : isName y with
                    | false => exact bqc false (by first | exact hn | rfl) (no (by rw [e1, hn]; rfl))
                    | true =>
                      refine bqc true (by first | exact hn | rfl) ⟨_, at2, p6, z, 0, 1000000, rfl, ?_⟩
                      cases hm : isWithin z 0 1000000 with
                      | false => exact bqc false (by first | exact hm | rfl) (no (by rw [e1, hn, hm]; rfl))
                      | true => exact bqc true (by first | exact hm | rfl) (ncast h (by rw [e1, hn, hm]; rfl))
                  · exact ⟨rfl, bqc false (by simp [PyData.eqv]; omega) (hN _ _ ⟨rfl, rfl, fun _ e => by cases e⟩)⟩
              rintro _ _ ⟨rfl, rfl, q2⟩
              refine sq_cut (fun σ M' => σ = [some (.d (.tuple (.str t :: y :: r))), some (.d (.int de)), some (.d (.bool w)), none] ∧ M = M' ∧ (∀ z, r = [z] → pcs (d + 1) w (.tuple [.str t, y, z]) = none)) (fun N hN => ?_) ?_
              · refine ⟨_, at0, sm2, j2, ?_⟩
                have e0 : ∀ z, r = [z] → pcs (d + 1) w (.tuple [.str t, y, z]) = if (inD (.str t) anyD && isName y && !w) = true then pcs d true z else none := fun z e => by
                  show pcsStep (pcs d) w t [y, z] = _
                  unfold pcsStep
                  rw [q2 z e]
                  rfl
                cases ha : inD (.str t) anyD with
                | false => exact bqc false (by first | exact ha | rfl) (hN _ _ ⟨rfl, rfl, fun z e => by rw [e0 z e, ha]; rfl⟩)
                | true =>
                  refine bqc true (by first | exact ha | rfl) ?_
                  rcases r with _ | ⟨z, _ | ⟨u, l⟩⟩
                  · exact ⟨rfl, bqc false (by simp [PyData.eqv]) (hN _ _ ⟨rfl, rfl, fun _ e => by cases e⟩)⟩
                  · refine ⟨rfl, bqc true (by simp [PyData.eqv]) ⟨_, at1, y, rfl, okT_mem hx (by simp), ?_⟩⟩
                    cases hn : isName y with
                    | false => exact bqc false (by first | exact hn | rfl) (hN _ _ ⟨rfl, rfl, fun z' e => by rw [e0 z' e, hn]; simp⟩)
                    | true =>
                      refine bqc true (by first | exact hn | rfl) ?_
                      cases w with
                      | true => exact hN _ _ ⟨rfl, rfl, fun z' e => by rw [e0 z' e]; simp⟩
                      | false =>
                        refine ⟨_, at2, z, d, true, ?_, by omega, okT_mem hx (by simp), ncast h (congrArg lawN (by rw [e0 z rfl, ha, hn]; rfl))⟩
                        show [W.d z, .d (.int (de - 1)), .d (.bool true)] = _
                        rw [show de - 1 = (d : Int) by omega]
                  · exact ⟨rfl, bqc false (by simp [PyData.eqv]; omega) (hN _ _ ⟨rfl, rfl, fun _ e => by cases e⟩)⟩
              rintro _ _ ⟨rfl, rfl, q3⟩
              refine sq_cut (fun σ M' => σ = [some (.d (.tuple (.str t :: y :: r))), some (.d (.int de)), some (.d (.bool w)), none] ∧ M = M' ∧ r = [] ∧ inD (.str t) nao = true) (fun N hN => ?_) ?_
              · refine ⟨neD_int, ?_⟩
                rcases r with _ | ⟨z, l⟩
                · refine bqc false (by simp [PyData.eqv]) ⟨_, at0, sm3, j3, ?_⟩
                  cases ha : inD (.str t) nao with
                  | true => exact bqc false (by show (if true = true then !inD (.str t) nao else _) = false; rw [ha]; rfl) (hN _ _ ⟨rfl, rfl, rfl, ha⟩)
                  | false =>
                    refine bqc true (by show (if true = true then !inD (.str t) nao else _) = true; rw [ha]; rfl) (no ?_)
                    obtain ⟨a1, a2⟩ := nao_no ha
                    show (if PyData.eqv (.str t) (.str "not") = true then _ else if inD (.str t) joinD = true then _ else none) = none
                    rw [a1, a2]
                    rfl
                · refine bqc true (by simp [PyData.eqv]; omega) (no ?_)
                  rcases l with _ | ⟨u, l⟩
                  · exact q3 z rfl
                  · rfl
              rintro _ _ ⟨rfl, rfl, rfl, q4⟩
              have e0 : pcs (d + 1) w (.tuple [.str t, y]) = if PyData.eqv (.str t) (.str "not") = true then pcs d w y else if inD (.str t) joinD = true then joinP (pcs d w) y else none := rfl
              refine sq_cut (fun σ M' => σ = [some (.d (.tuple [.str t, y])), some (.d (.int de)), some (.d (.bool w)), none] ∧ M = M' ∧ PyData.eqv (.str t) (.str "not") = false) (fun N hN => ?_) ?_
              · refine ⟨_, at0, rfl, ?_⟩
                cases hn : PyData.eqv (.str t) (.str "not") with
                | false => exact bqc false (by first | exact hn | rfl) (hN _ _ ⟨rfl, rfl, hn⟩)
                | true =>
                  refine bqc true (by first | exact hn | rfl) ⟨_, at1, y, d, w, ?_, by omega, okT_mem hx (by simp), ncast h (congrArg lawN (by rw [e0, hn]; rfl))⟩
                  show [W.d y, .d (.int (de - 1)), .d (.bool w)] = _
                  rw [show de - 1 = (d : Int) by omega]
              rintro _ _ ⟨rfl, rfl, q5⟩
              have e1 : pcs (d + 1) w (.tuple [.str t, y]) = joinP (pcs d w) y := by
                rw [e0, q5, nao_join q4 q5]
                rfl
              have hy : okT y := okT_mem hx (by simp)
              refine ⟨_, at1, ?_⟩
              cases y with
              | tuple zs => ?_
              | _ => exact no e1
              refine bqc true rfl (iteF ⟨_, at1, ?_⟩)
              by_cases h1 : (2 : Int) ≤ (zs.length : Int)
              case neg =>
                refine ifD (fun c => absurd c h1) (fun _ => ?_)
                exact no (by rw [e1]; unfold joinP sumP; simp only; rw [if_neg]; simp; omega)
              refine ifD (fun _ => ?_) (fun c => absurd h1 c)
              dsimp only [tK, rInt0]
              by_cases h2 : (zs.length : Int) ≤ 6
              case neg =>
                refine bqc false (decide_eq_false h2) ?_
                exact no (by rw [e1]; unfold joinP sumP; simp only; rw [if_neg]; simp; omega)
              refine bqc true (decide_eq_true h2) (iteF ?_)
              dsimp only [tNxt]
              refine ⟨_, at1, ?_⟩
              refine lcA (T := .one 3) (fun v => match v with | .d p => .int (lawN (pcs d w p)) | _ => .none) ?_ (fun _ _ _ => trivial) ?_ ?_
              · simpa using okT_len hy
              · intro v hv M2 _ R r
                obtain ⟨p, hp, rfl⟩ := List.mem_map.mp hv
                refine ⟨p, d, w, ?_, by omega, okT_mem hy hp, r⟩
                show [W.d p, .d (.int (de - 1)), .d (.bool w)] = _
                rw [show de - 1 = (d : Int) by omega]
              · have e : (zs.map W.d).map (fun v => match v with | .d p => PyData.int (lawN (pcs d w p)) | _ => .none) = (zs.map fun p => ((lawN (pcs d w p) : Nat) : Int)).map PyData.int := by
                  rw [List.map_map, List.map_map]
                  rfl
                rw [e]
                show (match intsD ((zs.map fun p => ((lawN (pcs d w p) : Nat) : Int)).map PyData.int) with | some ns => Q (.d (.int (min 99 ns.sum))) M | none => False)
                rw [intsD_map]
                have two : (decide (2 ≤ zs.length) && decide (zs.length ≤ 6)) = true := by simp; omega
                have := sum_law (pcs d w) zs (by intro z; rw [z] at h1; exact absurd h1 (by decide))
                show Q (.d (.int (min 99 _))) M
                rw [e1] at h
                have e2 : joinP (pcs d w) (.tuple zs) = if (zs.all fun p => (pcs d w p).isSome) = true then some (zs.map fun p => (pcs d w p).getD 0).sum else none := by
                  show sumP (pcs d w) zs = _
                  unfold sumP
                  rw [if_pos two]
                rw [e2, ← this.1] at h
                rw [this.2]
                exact h
            | _ => exact no rfl
        | _ => exact no rfl
end Ms
set_option Elab.async false
set_option linter.all false
set_option maxRecDepth 100000
namespace Ms
open PySem PySem.Spec PyProof.Rows L2 Dl
theorem d_L_is_condition {g : Gc} (T : Txt g) : Df g 11 "_law_is_condition" ["_law_thing"] (sp1 okT fun x => .bool (isCond x)) := by
  refine df_of (k := 10) (i := i_L_is_condition) T.p_L_is_condition T.sy sc_L_is_condition ok_L_is_condition (fun _ _ _ _ _ _ us hl => match us, hl with | [_], _ => rfl) ?_ (fun Y ws M Q E F hE h => ?_)
  · exact sp1_len
  · obtain ⟨x, rfl, hx, h⟩ := h
    refine ⟨_, (ss_one (s_ret (q_cmp o_le (q_call F 0 (d_L_pieces T 7) (a_cons (q_var F 0) (a_cons q_int (a_cons q_bool a_nil)))) q_int))), ?_⟩
    refine ⟨x, 6, false, rfl, Nat.le_refl _, hx, ?_⟩
    refine qcast h ?_
    unfold isCond condO lawN
    cases pcs 6 false x with
    | none => rfl
    | some n =>
      show decide ((n : Int) ≤ 30) = decide (((min 99 n : Nat) : Int) ≤ 30)
      apply decide_eq_decide.mpr
      omega
theorem d_L_pot {g : Gc} (T : Txt g) : Df g 1 "_law_pot" ["_law_script", "_law_k"] spPot := by
  refine df_of (k := 0) (i := i_L_pot) T.p_L_pot T.sy sc_L_pot ok_L_pot (fun _ _ _ _ _ _ us hl => match us, hl with | [_, _], _ => rfl) ?_ (fun Y ws M Q E F hE h => ?_)
  · exact spPot_len
  · obtain ⟨ns, k, rfl, h0, hk, h⟩ := h
    refine ⟨_, (ss_cons (s_set q_int (g_name F 2)) (ss_cons (s_if (t_cmp o_lt (q_var F 1) (q_callB F 0 c_len T.n_len (by decide +kernel) (a_cons (q_var F 0) a_nil))) (ss_one (s_set (q_bin o_mod (q_callB F 1 c_abs T.n_abs (by decide +kernel) (a_cons (q_ix (q_var F 0) (q_var F 1)) a_nil)) (q_bin o_pow (q_bin o_pow q_int q_int) q_int)) (g_name F 2))) ss_nil) (ss_one (s_ret (q_lstM (a_cons (q_bin o_mul (q_var F 2) (q_callT F 2 c_int T.n_int (by decide +kernel) (a_cons (q_cmp o_ge (q_var F 2) (q_bin o_pow q_int q_int)) a_nil))) (a_cons (q_bin o_mod (q_bin o_pow (q_bin o_add (q_bin o_add (q_bin o_mod (q_var F 2) q_int) (q_bin o_mul q_int (q_var F 1))) q_int) q_int) q_int) (a_cons q_int a_nil)))))))), ?_⟩
    have fin := fun (c : Int) (c0 : 0 ≤ c) (c1 : c.natAbs < 2 ^ 2000) (b : Bool) => pot_made (c := c) (k := k) (b := b) c0 c1 h0 hk
    refine ifD (fun hc => ?_) (fun hc => ?_)
    · have hl : k < ((ns.map PyData.int).length : Int) := hc
      obtain ⟨j, rfl⟩ := Int.eq_ofNat_of_zero_le h0
      have hj : j < ns.length := by simp at hl; omega
      obtain ⟨p1, p2, p3, p4, p5⟩ := pot_cell ns[j]
      obtain ⟨q1, q2, q3, q4, q5, q6, q7⟩ := fin _ p4 p5 (decide ((ns[j].natAbs : Int).fmod bigM ≥ (10 : Int) ^ (18 : Int).toNat))
      exact ⟨PyData.int ns[j], atI_nat (by simp [hj]), p1, p2, p3.1, q1, q2, q3.1, q4, q5, q6.1, small_of (show 3 ≤ 16777216 by decide), fun p np => h p _ np (q7 p M) oth_set⟩
    · obtain ⟨q1, q2, q3, q4, q5, q6, q7⟩ := fin 0 (by decide) (Nat.two_pow_pos _) (decide ((0 : Int) ≥ (10 : Int) ^ (18 : Int).toNat))
      exact ⟨q1, q2, q3.1, q4, q5, q6.1, small_of (show 3 ≤ 16777216 by decide), fun p np => h p _ np (q7 p M) oth_set⟩
theorem d_L_take {g : Gc} (T : Txt g) : Df g 1 "_law_take" ["_law_pot_here", "_law_many"] spTake := by
  refine df_of (k := 0) (i := i_L_take) T.p_L_take T.sy sc_L_take ok_L_take (fun _ _ _ _ _ _ us hl => match us, hl with | [_, _], _ => rfl) ?_ (fun Y ws M Q E F hE h => ?_)
  · exact spTake_len
  · obtain ⟨a, n, m, rfl, h1, hm, hn, hp, h⟩ := h
    refine ⟨_, (ss_cons (s_if (t_cmp o_gt (q_ix (q_var F 0) q_int) q_int) (ss_cons (s_set (q_bin o_mod (q_ix (q_var F 0) q_int) (q_var F 1)) (g_name F 2)) (ss_cons (s_set (q_bin o_fdiv (q_ix (q_var F 0) q_int) (q_var F 1)) (g_sub (q_var F 0) q_int)) (ss_one (s_ret (q_var F 2))))) ss_nil) (ss_cons (s_set (q_bin o_add (q_ix (q_var F 0) q_int) q_int) (g_sub (q_var F 0) q_int)) (ss_cons (s_set (q_bin o_mod (q_bin o_pow (q_bin o_add (q_ix (q_var F 0) q_int) (q_bin o_mul q_int (q_ix (q_var F 0) q_int))) q_int) q_int) (g_name F 3)) (ss_cons (s_set (q_bin o_mod (q_bin o_pow (q_bin o_add (q_bin o_add (q_var F 3) (q_bin o_mod (q_ix (q_var F 0) q_int) q_int)) (q_bin o_mul q_int (q_ix (q_var F 0) q_int))) q_int) q_int) (g_name F 4)) (ss_one (s_ret (q_bin o_mod (q_bin o_fdiv (q_var F 4) q_int) (q_var F 1)))))))), ?_⟩
    obtain ⟨x, y, z, hM, hx0, hx, hy0, hy, hz0, hz⟩ := hp
    refine ⟨_, hM, _, at0, ?_⟩
    refine ifD (fun hc => ?_) (fun hc => ?_)
    · obtain ⟨t1, t2, t3, t4, t5⟩ := take_full hc hx h1 hm
      exact ⟨_, hM, _, at0, t1.1, _, hM, _, at0, t1, _, hM, 0, rfl, h _ _ t2 t3 ⟨_, _, _, mset_same, t4, t5, hy0, hy, hz0, by omega⟩ oth_set⟩
    · have hM2 : mset M a (.lst [.d (.int x), .d (.int y), .d (.int (z + 1))]) a = _ := mset_same
      obtain ⟨t1, t2, t3, t4, t5, t6, t7, t8, t9, t10, t11⟩ := take_none (y := y) (z := z + 1) (m := m) hy0 hy (by omega) (by omega) h1 hm
      exact ⟨_, hM, _, at2, _, hM, 2, rfl, _, hM2, _, at1, _, hM2, _, at2, t1, t2, t3.1, _, hM2, _, at1, t4.1, _, hM2, _, at2, t5, t6, t7.1, t8, t9.1, h _ _ t10 t11 ⟨_, _, _, hM2, hx0, hx, hy0, hy, by omega, by omega⟩ oth_set⟩
theorem sp_use {g : Gc} {Y : Dx} {a : Addr} {n : Nat} {m : Int} {M : MH} {Q : W → MH → Prop} {E : XD} (h1 : 1 ≤ m) (hm : m.natAbs < 2 ^ 2000) (hn : n < lots) (hp : Pot a n M) (k : ∀ r M', 0 ≤ r → r < m → Pot a (n + 1) M' → Oth a M M' → Q (.d (.int r)) M') : spTake [.ref a, .d (.int m)] M Q E := ⟨a, n, m, rfl, h1, hm, hn, hp, k⟩
/-- a name drawn -/
def spName : SpD := fun ws M Q _ => ∃ (a : Addr) (n : Nat), ws = [.ref a] ∧ n + 10 ≤ lots ∧ Pot a n M ∧ ∀ z M', isNameS z = true → Pot a (n + 10) M' → Oth a M M' → Q (.d (.str z)) M'
theorem spName_len : ∀ ws M Q E, spName ws M Q E → ws.length = 1 := by rintro _ _ _ _ ⟨a, n, rfl, _⟩; rfl
theorem word_q : ∀ y ∈ wordsD, ∀ z, PyData.eqv y (.str z) = true → isNameS (z ++ "q") = true := by
  intro y hy z he
  simp only [wordsD, List.mem_cons, List.not_mem_nil, or_false] at hy
  rcases hy with rfl | rfl | rfl | rfl | rfl | rfl | rfl | rfl | rfl | rfl | rfl | rfl | rfl | rfl | rfl | rfl | rfl | rfl | rfl | rfl | rfl <;>
    (simp only [PyData.eqv, beq_iff_eq] at he; subst he; decide +kernel)
theorem abc_get {r : Int} (h0 : 0 ≤ r) (h : r < 26) : ∃ c, atI ("abcdefghijklmnopqrstuvwxyz" : Str).cps.toList r = some c ∧ isLow c = true := by
  have e : ("abcdefghijklmnopqrstuvwxyz" : Str).cps.toList = List.range' 97 26 := by decide +kernel
  rw [e]
  obtain ⟨c, h1, h2⟩ := atI_mem (xs := List.range' 97 26) h0 (by simpa using h)
  refine ⟨c, h1, ?_⟩
  rw [List.mem_range'_1] at h2
  simp [isLow]
  omega
theorem cps_app (x y : Str) : (x ++ y).cps.toList = x.cps.toList ++ y.cps.toList := by
  show (x.cps ++ y.cps).toList = _
  simp
theorem d_L_name {g : Gc} (T : Txt g) : Df g 2 "_law_name" ["_law_pot_here"] spName := by
  refine df_of (k := 1) (i := i_L_name) T.p_L_name T.sy sc_L_name ok_L_name (fun _ _ _ _ _ _ us hl => match us, hl with | [_], _ => rfl) ?_ (fun Y ws M Q E F hE h => ?_)
  · exact spName_len
  · obtain ⟨a, n, rfl, hn, hp, h⟩ := h
    refine ⟨_, (ss_cons (s_if (t_cmp (o_eq F) (q_call F 1 (d_L_take T) (a_cons (q_var F 0) (a_cons q_int a_nil))) q_int) (ss_one (s_ret (q_ix (q_lst (a_cons q_str (a_cons q_str (a_cons q_str (a_cons q_str (a_cons q_str (a_cons q_str (a_cons q_str (a_cons q_str (a_cons q_str (a_cons q_str (a_cons q_str (a_cons q_str a_nil))))))))))))) (q_call F 1 (d_L_take T) (a_cons (q_var F 0) (a_cons q_int a_nil)))))) ss_nil) (ss_cons (s_set q_str (g_name F 1)) (ss_cons (s_set q_str (g_name F 2)) (ss_cons (s_for F (i_rng1 F 0 T.n_range (a_cons (q_bin o_add q_int (q_call F 1 (d_L_take T) (a_cons (q_var F 0) (a_cons q_int a_nil)))) a_nil)) (g_name F 3) (ss_one (s_set (q_bin o_add (q_var F 2) (q_ix (q_var F 1) (q_call F 1 (d_L_take T) (a_cons (q_var F 0) (a_cons q_int a_nil))))) (g_name F 2)))) (ss_cons (s_if (t_cmp (o_in F) (q_var F 2) (q_call0 F 2 (d_L_words T))) (ss_one (s_set (q_bin o_add (q_var F 2) q_str) (g_name F 2))) ss_nil) (ss_one (s_ret (q_var F 2)))))))), ?_⟩
    refine ⟨a, n, 4, rfl, by decide, by decide, by omega, hp, fun r1 M1 a1 b1 p1 o1 => ⟨rfl, ?_⟩⟩
    cases hr : PyData.eqv (.int r1) (.int 0) with
    | true =>
      refine bqc true (by first | exact hr | rfl) ⟨sm12, a, _, 12, rfl, by decide, by decide, by omega, p1, fun r2 M2 a2 b2 p2 o2 => ?_⟩
      obtain ⟨d, hd, hm⟩ := atI_mem (xs := [PyData.str "isa", .str "no", .str "a", .str "zzzzzzzz", .str "ends", .str "ifs", .str "hase", .str "fro", .str "t", .str "picks", .str "an", .str "counts"]) a2 b2
      refine ⟨d, hd, ?_⟩
      simp only [List.mem_cons, List.not_mem_nil, or_false] at hm
      have p3 := p2.mono (show n + 1 + 1 ≤ n + 10 by omega)
      have o3 := o1.trans o2
      rcases hm with rfl | rfl | rfl | rfl | rfl | rfl | rfl | rfl | rfl | rfl | rfl | rfl <;> exact h _ _ (by decide +kernel) p3 o3
    | false =>
      refine bqc false (by first | exact hr | rfl) ?_
      refine ⟨a, _, 8, rfl, by decide, by decide, by omega, p1, fun r2 M2 a2 b2 p2 o2 => ?_⟩
      refine ⟨⟨by omega, by omega⟩, fun j σ M' => ∃ z x, σ = [some (.ref a), some (.d (.str "abcdefghijklmnopqrstuvwxyz")), some (.d (.str z)), x] ∧ z.length = j ∧ j ≤ 8 ∧ z.cps.toList.all isLow = true ∧ Pot a (n + 2 + j) M' ∧ Oth a M M', ⟨"", _, rfl, rfl, by decide, rfl, p2, o1.trans o2⟩, fun _ _ _ _ => trivial, ?_, ?_⟩
      · rintro j w σ M3 hj ⟨z, x, rfl, hl, hj8, hz, p3, o3⟩
        obtain ⟨hj', rfl⟩ := rng_get hj
        have j8 : j < 8 := by omega
        refine ⟨a, _, 26, rfl, by decide, by decide, by omega, p3, fun r3 M4 a3 b3 p4 o4 => ?_⟩
        obtain ⟨c, hc, lc⟩ := abc_get a3 b3
        refine ⟨small_of (show 26 ≤ 16777216 by decide), c, hc, small_of (by rw [hl]; show j + 1 ≤ 16777216; omega), _, _, rfl, ?_, by omega, ?_, p4, o3.trans o4⟩
        · show (z ++ ⟨#[c]⟩ : Str).length = j + 1
          rw [strLen_append, hl]
          rfl
        · rw [cps_app, List.all_append, hz]
          simp [lc]
      · rintro σ M3 ⟨z, x, rfl, hl, hj8, hz, p3, o3⟩
        rw [rng_len] at hl p3
        have l1 : 1 ≤ z.length := by omega
        have l8 : z.length ≤ 8 := by omega
        have lay : (PyData.str z).canLay0 = true := by
          simp only [PyData.canLay0, PyData.strOk, Array.all_eq_true]
          intro i hi
          have := List.all_eq_true.mp hz z.cps[i] (by simp)
          simp only [isLow, Bool.and_eq_true, decide_eq_true_eq] at this
          simp
          omega
        have p5 : Pot a (n + 10) M3 := p3.mono (by omega)
        refine ⟨rfl, in_words lay, ?_⟩
        cases hw : inD (.str z) wordsD with
        | true =>
          refine bqc true (by first | exact hw | rfl) ⟨small_of (by show z.length + 1 ≤ _; omega), ?_⟩
          refine h _ _ ?_ p5 o3
          unfold inD at hw
          obtain ⟨y, hy, e⟩ := List.any_eq_true.mp hw
          exact word_q y hy z e
        | false =>
          refine bqc false (by first | exact hw | rfl) ?_
          exact h z _ (by simp [isNameS, hw, hz, l1, l8]) p5 o3
abbrev B1 : Nat := 2 ^ 140
abbrev B2 : Nat := 2 ^ 141
/-- something drawn that is within sizes -/
def spDr (c : Nat) (P : PyData → Prop) : SpD := fun ws M Q _ => ∃ (a : Addr) (n : Nat), ws = [.ref a] ∧ n + c ≤ lots ∧ Pot a n M ∧ ∀ x M', P x → Pot a (n + c) M' → Oth a M M' → Q (.d x) M'
theorem spDr_len {c P} : ∀ ws M Q E, spDr c P ws M Q E → ws.length = 1 := by rintro _ _ _ _ ⟨a, n, rfl, _⟩; rfl
def oddD : List PyData := [.none, .bool true, .bool false, .str "", .str "ask", .str "A", .str "a1", .str "ninelongs", .int 0, .int (-1), .int 1000001, .int (10 ^ 39), .tuple [], .list [], .dict [], .tuple [.str "a"], .str "a b", .str "z", .str "every", .list [.str "a"], .tuple [.tuple []], .str "count"]
theorem odd_fn : ∀ x ∈ oddD, Fn B1 200 2 x := by
  intro x hx
  have h : oddD.all (fun x => okL B1 x && decide (x.weight ≤ 200) && decide (x.depth ≤ 2)) = true := by decide +kernel
  have := List.all_eq_true.mp h x hx
  simp only [Bool.and_eq_true, decide_eq_true_eq] at this
  exact ⟨this.1.1, this.1.2, this.2⟩
theorem d_L_odd {g : Gc} (T : Txt g) : Df g 2 "_law_odd" ["_law_pot_here"] (spDr 1 (Fn B1 200 2)) := by
  refine df_of (k := 1) (i := i_L_odd) T.p_L_odd T.sy sc_L_odd ok_L_odd (fun _ _ _ _ _ _ us hl => match us, hl with | [_], _ => rfl) ?_ (fun Y ws M Q E F hE h => ?_)
  · exact spDr_len
  · obtain ⟨a, n, rfl, hn, hp, h⟩ := h
    refine ⟨_, (ss_one (s_ret (q_ix (q_lst (a_cons q_none (a_cons q_bool (a_cons q_bool (a_cons q_str (a_cons q_str (a_cons q_str (a_cons q_str (a_cons q_str (a_cons q_int (a_cons (q_neg q_int) (a_cons (q_bin o_add (q_bin o_pow q_int q_int) q_int) (a_cons (q_bin o_pow q_int q_int) (a_cons (q_tup a_nil) (a_cons (q_lst a_nil) (a_cons q_dct0 (a_cons (q_tup (a_cons q_str a_nil)) (a_cons q_str (a_cons q_str (a_cons q_str (a_cons (q_lst (a_cons q_str a_nil)) (a_cons (q_tup (a_cons (q_tup a_nil) a_nil)) (a_cons q_str a_nil))))))))))))))))))))))) (q_call F 0 (d_L_take T) (a_cons (q_var F 0) (a_cons q_int a_nil)))))), ?_⟩
    have p6 : powOk 10 6 := powOk_of (n := 4) (by decide) (by decide) (by decide)
    have p39 : powOk 10 39 := powOk_of (n := 4) (by decide) (by decide) (by decide)
    refine ⟨p6, p39, sm0, sm0, sm1, sm1, sm0, sm1, sm22, ?_⟩
    refine ⟨a, n, 22, rfl, by decide, by decide, by omega, hp, fun r M1 a1 b1 p1 o1 => ?_⟩
    obtain ⟨d, hd, hm⟩ := atI_mem (xs := oddD) a1 (show r < (oddD.length : Int) from b1)
    exact ⟨d, hd, h d M1 (odd_fn d hm) p1 o1⟩
theorem nodup_sub : ∀ {l m : List Str}, l.Nodup → (∀ x ∈ l, x ∈ m) → l.length ≤ m.length
  | [], _, _, _ => Nat.zero_le _
  | x :: l, m, hn, hs => by
    have hx : x ∈ m := hs x List.mem_cons_self
    have hn' := List.nodup_cons.mp hn
    have := nodup_sub (l := l) (m := m.erase x) hn'.2 fun y hy => by
      have : y ≠ x := by rintro rfl; exact hn'.1 hy
      exact (List.mem_erase_of_ne this).mpr (hs y (List.mem_cons_of_mem _ hy))
    rw [List.length_erase_of_mem hx] at this
    have hp : 0 < m.length := List.length_pos_of_mem hx
    simp only [List.length_cons]
    omega
def xsS : List Str := ["xa", "xb", "xc", "xd", "xe"]
theorem xs_nm : ∀ z ∈ xsS, isNameS z = true := by
  intro z hz
  simp only [xsS, List.mem_cons, List.not_mem_nil, or_false] at hz
  rcases hz with rfl | rfl | rfl | rfl | rfl <;> decide +kernel
theorem xs_free {zs : List Str} (h : zs.length < 5) : ∃ z r, (xsS.filter fun x => !decide (x ∈ zs)) = z :: r ∧ isNameS z = true := by
  cases e : xsS.filter fun x => !decide (x ∈ zs) with
  | nil =>
    have := nodup_sub (l := xsS) (m := zs) (by decide +kernel) fun x hx => by
      have := List.filter_eq_nil_iff.mp e x hx
      simpa using this
    have l5 : xsS.length = 5 := rfl
    omega
  | cons z r =>
    refine ⟨z, r, rfl, xs_nm z ?_⟩
    have : z ∈ xsS.filter fun x => !decide (x ∈ zs) := by rw [e]; exact List.mem_cons_self
    exact (List.mem_filter.mp this).1
def Nms (x : PyData) : Prop := ∃ zs : List Str, x = .list (zs.map PyData.str) ∧ zs.length = 4 ∧ ∀ z ∈ zs, isNameS z = true
theorem name_sok {z : Str} (h : isNameS z = true) : PyData.strOk z = true := by
  simp only [isNameS, Bool.and_eq_true] at h
  simp only [PyData.strOk, Array.all_eq_true]
  intro i hi
  have := List.all_eq_true.mp h.2 z.cps[i] (by simp)
  simp only [isLow, Bool.and_eq_true, decide_eq_true_eq] at this
  simp
  omega
theorem name_len8 {z : Str} (h : isNameS z = true) : z.length ≤ 8 := by
  simp only [isNameS, Bool.and_eq_true, decide_eq_true_eq] at h
  exact h.1.1.2
theorem strsA_lay : ∀ {zs : List Str}, (∀ z ∈ zs, PyData.strOk z = true) → PyData.canLayAll0 (zs.map PyData.str) = true ∧ PyData.depthAll (zs.map PyData.str) = 0
  | [], _ => ⟨rfl, rfl⟩
  | z :: zs, h => by
    obtain ⟨h1, h2⟩ := strsA_lay (zs := zs) fun x hx => h x (List.mem_cons_of_mem _ hx)
    constructor
    · simp only [List.map_cons, PyData.canLayAll0, PyData.canLay0, Bool.and_eq_true]
      exact ⟨h z List.mem_cons_self, h1⟩
    · simp [PyData.depthAll, PyData.depth, h2]
theorem inA_strs {z : Str} {zs : List Str} (h : ∀ x ∈ zs, PyData.strOk x = true) (hz : PyData.strOk z = true) : inOk (.str z) (zs.map PyData.str) = true := by
  obtain ⟨h1, h2⟩ := strsA_lay h
  unfold inOk
  rw [h1, h2, show (PyData.str z).canLay0 = true from hz]
  simp
theorem map_filter_str (zs l : List Str) : ((((l.map PyData.str).map W.d).filter fun w => match w with | .d x => !inD x (zs.map PyData.str) | _ => false).map unW) = (l.filter fun x => !decide (x ∈ zs)).map PyData.str := by
  induction l with
  | nil => rfl
  | cons x l ih =>
    rw [List.map_cons, List.map_cons, List.filter_cons, List.filter_cons]
    have e0 : (match W.d (PyData.str x) with | .d x => !inD x (zs.map PyData.str) | _ => false) = !decide (x ∈ zs) := by
      show (!inD (PyData.str x) (zs.map PyData.str)) = _
      rw [inD_strs x zs]
    rw [e0]
    cases h : !decide (x ∈ zs) with
    | true => rw [if_pos rfl, if_pos rfl, List.map_cons, List.map_cons, ih]; rfl
    | false => rw [if_neg (by decide), if_neg (by decide), ih]
theorem d_L_names {g : Gc} (T : Txt g) : Df g 3 "_law_names" ["_law_pot_here"] (spDr 40 Nms) := by
  refine df_of (k := 2) (i := i_L_names) T.p_L_names T.sy sc_L_names ok_L_names (fun _ _ _ _ _ _ us hl => match us, hl with | [_], _ => rfl) ?_ (fun Y ws M Q E F hE h => ?_)
  · exact spDr_len
  · obtain ⟨a, n, rfl, hn, hp, h⟩ := h
    refine ⟨_, (ss_cons (s_set (q_lstM a_nil) (g_cell F 1)) (ss_cons (s_for F (i_rng1 F 0 T.n_range (a_cons q_int a_nil)) (g_name F 2) (ss_cons (s_set (q_call F 1 (d_L_name T) (a_cons (q_var F 0) a_nil)) (g_name F 3)) (ss_cons (s_if (t_cmp (o_in F) (q_var F 3) (q_var F 1)) (ss_one (s_set (q_ix (q_lc (own := [("_law_other", 4)]) F ⟨_, ["_law_pot_here", "_law_found", "_law_turn", "_law_name_here", "_law_other"], [4, 1], [4], [], [], false, true⟩ (.one 4) ⟨rfl, rfl, ⟨rfl, by decide +kernel, by decide +kernel, by decide +kernel, by decide +kernel⟩, by decide +kernel, by decide +kernel, rfl, rfl⟩ (by decide) (i_tup (q_tup (a_cons q_str (a_cons q_str (a_cons q_str (a_cons q_str (a_cons q_str a_nil))))))) (fun _ F hw => ⟨(pgN F 4), (ts_one (t_cmp (o_notIn F) (q_var F 4) (q_var F 1))), (q_var F 4)⟩)) q_int) (g_name F 3))) ss_nil) (ss_one (s_expr (q_met m_append (q_var F 1) (a_cons (q_var F 3) a_nil))))))) (ss_one (s_ret (q_frz (q_var F 1)))))), ?_⟩
    refine ⟨sm0, fun f nf => ?_⟩
    have fa : a ≠ f := hp.ne nf
    have hp0 : Pot a n (mset M f (.lst [])) := hp.of (mset_ne fa)
    have o0 : Oth a M (mset M f (.lst [])) := fun b o nb e => by rw [mset_ne (by rintro rfl; rw [nf] at e; cases e)]; exact e
    refine ⟨⟨by omega, by omega⟩, fun j σ M' => ∃ zs x y, σ = [some (.ref a), some (.ref f), x, y, none] ∧ j ≤ 4 ∧ zs.length = j ∧ (∀ z ∈ zs, isNameS z = true) ∧ M' f = some (.lst ((zs.map PyData.str).map W.d)) ∧ Pot a (n + 10 * j) M' ∧ Oth a M M', ⟨[], _, _, rfl, by omega, rfl, by simp, mset_same, hp0, o0⟩, fun _ _ _ _ => trivial, ?_, ?_⟩
    · rintro j w σ M2 hj ⟨zs, x, y, rfl, hj4, hl, hnm, hf, p2, o2⟩
      obtain ⟨hj', rfl⟩ := rng_get hj
      have j4 : j < 4 := by omega
      refine ⟨a, _, rfl, by omega, p2, fun z M3 hz p3 o3 => ?_⟩
      have f3 : M3 f = some (.lst ((zs.map PyData.str).map W.d)) := o3 f _ fa.symm hf
      have fin : ∀ y : Str, isNameS y = true → ∀ x : Option W, ∃ (zs' : List Str) (x' y' : Option W), [some (W.ref a), some (.ref f), x, some (.d (.str y)), none] = [some (.ref a), some (.ref f), x', y', none] ∧ j + 1 ≤ 4 ∧ zs'.length = j + 1 ∧ (∀ z ∈ zs', isNameS z = true) ∧ (mset M3 f (.lst ((zs.map PyData.str).map W.d ++ [.d (.str y)]))) f = some (.lst ((zs'.map PyData.str).map W.d)) ∧ Pot a (n + 10 * (j + 1)) (mset M3 f (.lst ((zs.map PyData.str).map W.d ++ [.d (.str y)]))) ∧ Oth a M (mset M3 f (.lst ((zs.map PyData.str).map W.d ++ [.d (.str y)]))) := by
        intro y hy x
        refine ⟨zs ++ [y], _, _, rfl, by omega, by simp [hl], ?_, ?_, ?_, ?_⟩
        · intro z hz
          rcases List.mem_append.mp hz with h | h
          · exact hnm z h
          · rw [List.mem_singleton.mp h]; exact hy
        · rw [mset_same]; simp
        · exact (p3.mono (by omega)).of (mset_ne fa)
        · intro b o nb e
          rw [mset_ne (by rintro rfl; rw [nf] at e; cases e)]
          exact o3 b o nb (o2 b o nb e)
      have lz : ((zs.map PyData.str).map W.d).length < sizeLine := by rw [List.length_map, List.length_map, sizeLine_eq]; omega
      dsimp only [gNam]
      refine sq_cut (fun σ M' => ∃ y, isNameS y = true ∧ σ = [some (.ref a), some (.ref f), some (.d (.int (0 + (j : Int)))), some (.d (.str y)), none] ∧ M3 = M') (fun N hN => ?_) ?_
      · refine ⟨_, f3, dataQ_of ⟨inA_strs (fun x hx => name_sok (hnm x hx)) (name_sok hz), ?_⟩⟩
        refine bq (ifB (fun _ => ?_) (fun _ => hN _ _ ⟨z, hz, rfl, rfl⟩))
        refine ⟨sm5, ?_⟩
        obtain ⟨u, r, e, hu⟩ := xs_free (zs := zs) (by omega)
        have e' := map_filter_str zs xsS
        rw [e] at e'
        refine lcPe (T := .one 4) (fun w => match w with | .d x => !inD x (zs.map PyData.str) | _ => false) unW _ e' ?_ (fun _ _ _ => trivial) ?_ ?_
        · decide
        · intro w hw M4 hk
          obtain ⟨d, hd, rfl⟩ := List.mem_map.mp hw
          obtain ⟨u, hu, rfl⟩ : ∃ u ∈ xsS, d = .str u := by
            simp only [List.mem_cons, List.not_mem_nil, or_false] at hd
            rcases hd with rfl | rfl | rfl | rfl | rfl <;> exact ⟨_, by decide +kernel, rfl⟩
          refine ⟨fun R r => ⟨_, hk _ _ f3, dataQ_of ⟨inA_strs (fun x hx => name_sok (hnm x hx)) (name_sok (xs_nm u hu)), bq r⟩⟩, fun _ R r => r⟩
        · exact ⟨_, at0, hN _ _ ⟨u, hu, rfl, rfl⟩⟩
      · rintro _ _ ⟨y, hy, rfl, rfl⟩
        exact ⟨⟨_, f3⟩, _, f3, lz, fin y hy _⟩
    · rintro σ M2 ⟨zs, x, y, rfl, hj4, hl, hnm, hf, p2, o2⟩
      rw [rng_len] at hl p2
      refine ⟨_, hf, dataQ_of ?_⟩
      refine h _ _ ⟨zs, rfl, hl, hnm⟩ ((p2.mono (by omega)).of (mdel_ne fa)) ?_
      intro b o nb e
      rw [mdel_ne (by rintro rfl; rw [nf] at e; cases e)]
      exact o2 b o nb e
end Ms
set_option Elab.async false
set_option linter.all false
set_option maxRecDepth 100000
namespace Ms
open PySem PySem.Spec PyProof.Rows L2 Dl
/-- a piece drawn -/
structure PieceX (x : PyData) : Prop where
  p : ∃ t n y, x = .tuple [.str t, n, y] ∧ isPiece t [n, y] = true
  f : Fn B1 250 1 x
  l : x.canLay0 = true
def spPc : SpD := fun ws M Q _ => ∃ (a : Addr) (n : Nat) (x : PyData), ws = [.ref a, .d x] ∧ Nms x ∧ n + 5 ≤ lots ∧ Pot a n M ∧ ∀ x M', PieceX x → Pot a (n + 5) M' → Oth a M M' → Q (.d x) M'
theorem spPc_len : ∀ ws M Q E, spPc ws M Q E → ws.length = 2 := by rintro _ _ _ _ ⟨a, n, x, rfl, _⟩; rfl
theorem nms_get {zs : List Str} (hl : zs.length = 4) (hz : ∀ z ∈ zs, isNameS z = true) {r : Int} (h0 : 0 ≤ r) (h1 : r < ((zs.map PyData.str).length : Int)) : ∃ z, atI (zs.map PyData.str) r = some (.str z) ∧ isNameS z = true := by
  obtain ⟨d, hd, hm⟩ := atI_mem h0 h1
  obtain ⟨z, hz', rfl⟩ := List.mem_map.mp hm
  exact ⟨z, hd, hz z hz'⟩
theorem b1_ofN {x : Int} (h0 : 0 ≤ x) (h1 : x ≤ 1000000) : x.natAbs < B1 := by
  have : (1000001 : Nat) ≤ B1 := by decide
  omega
theorem piece_is {t z : Str} {y : PyData} (hz : isNameS z = true) (ht : (inD (.str t) ihD = true ∧ ∃ u, y = .str u ∧ isNameS u = true) ∨ (inD (.str t) ftD = true ∧ ∃ n : Int, y = .int n ∧ 0 ≤ n ∧ n ≤ 1000000)) : PieceX (.tuple [.str t, .str z, y]) := by
  have t4 : PyData.strOk t = true ∧ t.length ≤ 4 := by
    rcases ht with ⟨h, _⟩ | ⟨h, _⟩
    · rcases ih_is h with rfl | rfl <;> exact ⟨by decide +kernel, by decide +kernel⟩
    · rcases ft_is h with rfl | rfl <;> exact ⟨by decide +kernel, by decide +kernel⟩
  have a1 : Fn B1 4 0 (.str t) := Fn.strW t4.1 t4.2
  have a2 : Fn B1 8 0 (.str z) := Fn.strW (name_sok hz) (name_len8 hz)
  rcases ht with ⟨h, u, rfl, hu⟩ | ⟨h, n, rfl, n0, n1⟩
  · have a3 : Fn B1 8 0 (.str u) := Fn.strW (name_sok hu) (name_len8 hu)
    refine ⟨⟨t, _, _, rfl, ?_⟩, (((FnA.one a1).app (FnA.one a2)).app (FnA.one a3)).tup.mono (Nat.le_refl _) (by decide) (Nat.le_refl _), ?_⟩
    · rw [piece2, ih_ks h, h]
      show (true && isNameS z && isNameS u) = true
      rw [hz, hu]
      rfl
    · simp only [PyData.canLay0, PyData.canLayAll0, Bool.and_eq_true]
      exact ⟨t4.1, name_sok hz, name_sok hu, trivial⟩
  · have a3 : Fn B1 198 0 (.int n) := Fn.int (b1_ofN n0 n1) (by decide) (Nat.le_refl _)
    refine ⟨⟨t, _, _, rfl, ?_⟩, (((FnA.one a1).app (FnA.one a2)).app (FnA.one a3)).tup.mono (Nat.le_refl _) (by decide) (Nat.le_refl _), ?_⟩
    · have nh : inD (.str t) ihD = false := by rcases ft_is h with rfl | rfl <;> decide +kernel
      rw [piece2, ft_ks h, nh]
      show (true && isNameS z && isWithin (.int n) 0 1000000) = true
      rw [hz]
      simp [isWithin, n0, n1]
    · simp only [PyData.canLay0, PyData.canLayAll0, Bool.and_eq_true]
      exact ⟨t4.1, name_sok hz, trivial, trivial⟩
theorem d_L_piece {g : Gc} (T : Txt g) : Df g 2 "_law_piece" ["_law_pot_here", "_law_names_here"] spPc := by
  refine df_of (k := 1) (i := i_L_piece) T.p_L_piece T.sy sc_L_piece ok_L_piece (fun _ _ _ _ _ _ us hl => match us, hl with | [_, _], _ => rfl) ?_ (fun Y ws M Q E F hE h => ?_)
  · exact spPc_len
  · obtain ⟨a, n, x, rfl, hx, hn, hp, h⟩ := h
    refine ⟨_, (ss_cons (s_par F 2 3 (a_cons (q_ix (q_var F 1) (q_call F 0 (d_L_take T) (a_cons (q_var F 0) (a_cons (q_callB F 1 c_len T.n_len (by decide +kernel) (a_cons (q_var F 1) a_nil)) a_nil)))) (a_cons (q_ix (q_var F 1) (q_call F 0 (d_L_take T) (a_cons (q_var F 0) (a_cons (q_callB F 1 c_len T.n_len (by decide +kernel) (a_cons (q_var F 1) a_nil)) a_nil)))) a_nil))) (ss_cons (s_set (q_call F 0 (d_L_take T) (a_cons (q_var F 0) (a_cons q_int a_nil))) (g_name F 4)) (ss_cons (s_if (t_cmp o_lt (q_var F 4) q_int) (ss_one (s_ret (q_tup (a_cons (q_ix (q_lst (a_cons q_str (a_cons q_str a_nil))) (q_var F 4)) (a_cons (q_var F 2) (a_cons (q_var F 3) a_nil)))))) ss_nil) (ss_one (s_ret (q_tup (a_cons (q_ix (q_lst (a_cons q_str (a_cons q_str a_nil))) (q_bin o_sub (q_var F 4) q_int)) (a_cons (q_var F 2) (a_cons (q_ix (q_lst (a_cons q_int (a_cons q_int (a_cons q_int (a_cons q_int (a_cons (q_bin o_pow q_int q_int) (a_cons (q_call F 0 (d_L_take T) (a_cons (q_var F 0) (a_cons (q_bin o_add (q_bin o_pow q_int q_int) q_int) a_nil))) a_nil))))))) (q_call F 0 (d_L_take T) (a_cons (q_var F 0) (a_cons q_int a_nil)))) a_nil))))))))), ?_⟩
    obtain ⟨zs, rfl, hl, hz⟩ := hx
    have l4 : (zs.map PyData.str).length = 4 := by rw [List.length_map, hl]
    have q1 : (1 : Int) ≤ ((zs.map PyData.str).length : Int) := by rw [l4]; decide
    have q2 : ((zs.map PyData.str).length : Int).natAbs < 2 ^ 2000 := by rw [l4]; decide
    refine ⟨a, n, _, rfl, q1, q2, by omega, hp, fun r M1 a1 b1 p1 o1 => ?_⟩
    obtain ⟨z, e1, nz⟩ := nms_get hl hz a1 b1
    refine ⟨_, e1, a, _, _, rfl, q1, q2, by omega, p1, fun r2 M2 a2 b2 p2 o2 => ?_⟩
    obtain ⟨u, e2, nu⟩ := nms_get hl hz a2 b2
    refine ⟨_, e2, ?_⟩
    refine ⟨a, _, 4, rfl, by decide, by decide, by omega, p2, fun way M3 a3 b3 p3 o3 => ?_⟩
    have o13 := (o1.trans o2).trans o3
    refine ifD (fun hw => ?_) (fun hw => ?_)
    · have hw : way < 2 := hw
      obtain ⟨d, hd, hm⟩ := atI_mem (xs := ihD) a3 hw
      obtain ⟨t, rfl, ht⟩ : ∃ t : Str, d = .str t ∧ inD (.str t) ihD = true := by
        simp only [ihD, List.mem_cons, List.not_mem_nil, or_false] at hm
        rcases hm with rfl | rfl <;> exact ⟨_, rfl, by decide +kernel⟩
      exact ⟨sm2, _, hd, sm3, h _ M3 (piece_is nz (.inl ⟨ht, u, rfl, nu⟩)) (p3.mono (by omega)) o13⟩
    · have hw : ¬ way < 2 := hw
      obtain ⟨d, hd, hm⟩ := atI_mem (xs := ftD) (show 0 ≤ way - 2 by omega) (show way - 2 < 2 by omega)
      obtain ⟨t, rfl, ht⟩ : ∃ t : Str, d = .str t ∧ inD (.str t) ftD = true := by
        simp only [ftD, List.mem_cons, List.not_mem_nil, or_false] at hm
        rcases hm with rfl | rfl <;> exact ⟨_, rfl, by decide +kernel⟩
      have p6 : powOk 10 6 := powOk_of (n := 4) (by decide) (by decide) (by decide)
      refine ⟨sm2, _, hd, p6, p6, a, _, 1000001, rfl, by decide, by decide, by omega, p3, fun v M4 a4 b4 p4 o4 => ⟨sm6, ?_⟩⟩
      refine ⟨a, _, 6, rfl, by decide, by decide, by omega, p4, fun r5 M5 a5 b5 p5 o5 => ?_⟩
      obtain ⟨y, hy, hm⟩ := atI_mem (xs := [PyData.int 0, .int 1, .int 2, .int 3, .int 1000000, .int v]) a5 b5
      refine ⟨y, hy, sm3, h _ M5 (piece_is nz (.inr ⟨ht, ?_⟩)) (p5.mono (by omega)) ((o13.trans o4).trans o5)⟩
      simp only [List.mem_cons, List.not_mem_nil, or_false] at hm
      rcases hm with rfl | rfl | rfl | rfl | rfl | rfl <;> exact ⟨_, rfl, by omega, by omega⟩
end Ms
set_option Elab.async false
set_option linter.all false
set_option maxRecDepth 100000
namespace Ms
open PySem PySem.Spec PyProof.Rows L2 Dl
def cD : Nat → Nat
  | 0 => 6
  | n + 1 => 2 + 6 * cD n
theorem cD6 : ∀ n, 6 ≤ cD n
  | 0 => Nat.le_refl _
  | n + 1 => by have := cD6 n; show 6 ≤ 2 + 6 * cD n; omega
/-- a condition drawn: so deep, of so many pieces -/
structure CondX (d u : Nat) (w : Bool) (x : PyData) : Prop where
  p : ∀ e, pcs (d + e) w x = some u
  f : Fn B1 (u * (250 + 30 * d)) (2 * d) x
  l : x.canLay0 = true
theorem cond_piece {x : PyData} (h : PieceX x) (d : Nat) (w : Bool) : CondX (d + 1) 1 w x := by
  obtain ⟨t, n, y, rfl, hp⟩ := h.p
  refine ⟨fun e => ?_, h.f.mono (Nat.le_refl _) (by omega) (by omega), h.l⟩
  rw [show d + 1 + e = (d + e) + 1 by omega]
  show pcsStep (pcs (d + e)) w t [n, y] = _
  unfold pcsStep
  rw [if_pos hp]
theorem sok_and {t : Str} (h : inD (.str t) joinD = true) : PyData.strOk t = true ∧ t.length ≤ 3 := by
  have := t_in (zs := ["and", "or"]) h
  simp only [List.mem_cons, List.not_mem_nil, or_false] at this
  rcases this with rfl | rfl <;> exact ⟨by decide +kernel, by decide +kernel⟩
theorem sok_any {t : Str} (h : inD (.str t) anyD = true) : PyData.strOk t = true ∧ t.length ≤ 5 := by
  have := t_in (zs := ["any", "every"]) h
  simp only [List.mem_cons, List.not_mem_nil, or_false] at this
  rcases this with rfl | rfl <;> exact ⟨by decide +kernel, by decide +kernel⟩
theorem cond_not {d u : Nat} {w : Bool} {x : PyData} (h : CondX d u w x) (hu : 1 ≤ u) : CondX (d + 1) u w (.tuple [.str "not", x]) := by
  have a : Fn B1 3 0 (.str "not") := Fn.strW (by decide +kernel) (by decide +kernel)
  refine ⟨fun e => ?_, ((FnA.one (a.mono (Nat.le_refl _) (Nat.le_refl _) (Nat.zero_le _))).app (FnA.one h.f)).tup.mono (Nat.le_refl _) ?_ (by omega), ?_⟩
  · rw [show d + 1 + e = (d + e) + 1 by omega]
    exact h.p e
  · rw [show u * (250 + 30 * (d + 1)) = u * (250 + 30 * d) + 30 * u by rw [show 250 + 30 * (d + 1) = (250 + 30 * d) + 30 by omega, Nat.mul_add]; omega]
    omega
  · simp only [PyData.canLay0, PyData.canLayAll0, Bool.and_eq_true]
    exact ⟨a.o, h.l, trivial⟩
theorem cond_any {d u : Nat} {x : PyData} {t z : Str} (ht : inD (.str t) anyD = true) (hz : isNameS z = true) (h : CondX d u true x) (hu : 1 ≤ u) : CondX (d + 1) u false (.tuple [.str t, .str z, x]) := by
  obtain ⟨t1, t2⟩ := sok_any ht
  have a : Fn B1 5 0 (.str t) := Fn.strW t1 t2
  have b : Fn B1 8 0 (.str z) := Fn.strW (name_sok hz) (name_len8 hz)
  refine ⟨fun e => ?_, (((FnA.one (a.mono (Nat.le_refl _) (Nat.le_refl _) (Nat.zero_le _))).app (FnA.one (b.mono (Nat.le_refl _) (Nat.le_refl _) (Nat.zero_le _)))).app (FnA.one h.f)).tup.mono (Nat.le_refl _) ?_ (by omega), ?_⟩
  · rw [show d + 1 + e = (d + e) + 1 by omega]
    have k : ksP.contains t = false := by
      have := t_in (zs := ["any", "every"]) ht
      simp only [List.mem_cons, List.not_mem_nil, or_false] at this
      rcases this with rfl | rfl <;> decide +kernel
    show pcsStep (pcs (d + e)) false t [.str z, x] = _
    unfold pcsStep
    rw [piece2, k]
    show (if (inD (.str t) anyD && isNameS z && !false) = true then pcs (d + e) true x else none) = _
    rw [ht, hz]
    exact h.p e
  · rw [show u * (250 + 30 * (d + 1)) = u * (250 + 30 * d) + 30 * u by rw [show 250 + 30 * (d + 1) = (250 + 30 * d) + 30 by omega, Nat.mul_add]; omega]
    omega
  · simp only [PyData.canLay0, PyData.canLayAll0, Bool.and_eq_true]
    exact ⟨t1, name_sok hz, h.l, trivial⟩
theorem parts_fn {d : Nat} {w : Bool} : ∀ (qs : List (PyData × Nat)), (∀ q ∈ qs, CondX d q.2 w q.1) → FnA B1 (qs.length + (qs.map (·.2)).sum * (250 + 30 * d)) (2 * d) (qs.map (·.1)) ∧ PyData.canLayAll0 (qs.map (·.1)) = true
  | [], _ => ⟨.nil, rfl⟩
  | q :: qs, h => by
    obtain ⟨h1, h2⟩ := parts_fn qs fun x hx => h x (List.mem_cons_of_mem _ hx)
    have hq := h q List.mem_cons_self
    refine ⟨((FnA.one hq.f).app h1).mono (Nat.le_refl _) ?_ (Nat.le_refl _), ?_⟩
    · simp only [List.map_cons, List.sum_cons, List.length_cons]
      rw [Nat.add_mul]
      omega
    · simp only [List.map_cons, PyData.canLayAll0, Bool.and_eq_true]
      exact ⟨hq.l, h2⟩
theorem cond_join {d : Nat} {w : Bool} {t : Str} (ht : inD (.str t) joinD = true) {qs : List (PyData × Nat)} (h2 : 2 ≤ qs.length) (h6 : qs.length ≤ 6) (h : ∀ q ∈ qs, CondX d q.2 w q.1 ∧ 1 ≤ q.2) : CondX (d + 1) (qs.map (·.2)).sum w (.tuple [.str t, .tuple (qs.map (·.1))]) := by
  obtain ⟨t1, t2⟩ := sok_and ht
  have a : Fn B1 3 0 (.str t) := Fn.strW t1 t2
  obtain ⟨f1, f2⟩ := parts_fn qs fun q hq => (h q hq).1
  have hs : ∀ l : List (PyData × Nat), (∀ q ∈ l, 1 ≤ q.2) → l.length ≤ (l.map (·.2)).sum := by
    intro l
    induction l with
    | nil => intro _; exact Nat.le_refl _
    | cons q l ih =>
      intro hh
      have := ih fun x hx => hh x (List.mem_cons_of_mem _ hx)
      have := hh q List.mem_cons_self
      simp only [List.map_cons, List.sum_cons, List.length_cons]
      omega
  have hs := hs qs fun q hq => (h q hq).2
  refine ⟨fun e => ?_, ((FnA.one (a.mono (Nat.le_refl _) (Nat.le_refl _) (Nat.zero_le _))).app (FnA.one f1.tup)).tup.mono (Nat.le_refl _) ?_ (by omega), ?_⟩
  · rw [show d + 1 + e = (d + e) + 1 by omega]
    have nn : PyData.eqv (.str t) (.str "not") = false := by
      have := t_in (zs := ["and", "or"]) ht
      simp only [List.mem_cons, List.not_mem_nil, or_false] at this
      rcases this with rfl | rfl <;> decide +kernel
    show (if PyData.eqv (.str t) (.str "not") = true then _ else if inD (.str t) joinD = true then sumP (pcs (d + e) w) (qs.map (·.1)) else none) = _
    rw [nn, ht]
    show sumP (pcs (d + e) w) (qs.map (·.1)) = _
    unfold sumP
    have al : ((qs.map (·.1)).all fun p => (pcs (d + e) w p).isSome) = true := by
      rw [List.all_map, List.all_eq_true]
      intro q hq
      show (pcs (d + e) w q.1).isSome = true
      rw [(h q hq).1.p e]
      rfl
    have sm : ∀ l : List (PyData × Nat), (∀ q ∈ l, CondX d q.2 w q.1) → ((l.map (·.1)).map fun p => (pcs (d + e) w p).getD 0).sum = (l.map (·.2)).sum := by
      intro l
      induction l with
      | nil => intro _; rfl
      | cons q l ih =>
        intro hh
        rw [List.map_cons, List.map_cons, List.map_cons, List.sum_cons, List.sum_cons, ih fun x hx => hh x (List.mem_cons_of_mem _ hx), (hh q List.mem_cons_self).p e]
        rfl
    rw [if_pos (by simp; omega), if_pos al, sm qs fun q hq => (h q hq).1]
  · rw [show (qs.map (·.2)).sum * (250 + 30 * (d + 1)) = (qs.map (·.2)).sum * (250 + 30 * d) + 30 * (qs.map (·.2)).sum by rw [show 250 + 30 * (d + 1) = (250 + 30 * d) + 30 by omega, Nat.mul_add]; omega]
    omega
  · simp only [PyData.canLay0, PyData.canLayAll0, Bool.and_eq_true]
    exact ⟨t1, f2, trivial⟩
def spDn : Nat → SpD
  | 0 => spNo
  | n + 1 => fun ws M Q _ => ∃ (a : Addr) (c : Nat) (x : PyData) (d : Nat) (m : Int) (w : Bool), ws = [.ref a, .d x, .d (.int d), .d (.int m), .d (.bool w)] ∧ Nms x ∧ 1 ≤ d ∧ d ≤ n ∧ 1 ≤ m ∧ m ≤ 30 ∧ c + cD n ≤ lots ∧ Pot a c M ∧
    ∀ (y : PyData) (u : Nat) M', CondX d u w y → 1 ≤ u → (u : Int) ≤ m → Pot a (c + cD n) M' → Oth a M M' → Q (.d (.tuple [y, .int u])) M'
theorem spDn_len {n} : ∀ ws M Q E, spDn n ws M Q E → ws.length = 5 := by
  cases n with
  | zero => intro _ _ _ _ h; exact h.elim
  | succ n => rintro _ _ _ _ ⟨a, c, x, d, m, w, rfl, _⟩; rfl
theorem d_L_drawn {g : Gc} (T : Txt g) : ∀ n : Nat, Df g (3 + n) "_law_drawn" ["_law_pot_here", "_law_names_here", "_law_deep", "_law_most", "_law_within"] (spDn n)
  | 0 => df_of (k := 2) (i := i_L_drawn) T.p_L_drawn T.sy sc_L_drawn ok_L_drawn (fun _ _ _ _ _ _ us hl => match us, hl with | [_, _, _, _, _], _ => rfl) (fun _ _ _ _ (h : False) => h.elim) (fun _ _ _ _ _ _ _ (h : False) => h.elim)
  | n + 1 => by
    refine df_of (k := 3 + n) (i := i_L_drawn) T.p_L_drawn T.sy sc_L_drawn ok_L_drawn (fun _ _ _ _ _ _ us hl => match us, hl with | [_, _, _, _, _], _ => rfl) ?_ (fun Y ws M Q E F hE h => ?_)
    · exact spDn_len
    · obtain ⟨a, c, x, d, m, w, rfl, hx, d1, dn, m1, m30, hc, hp, h⟩ := h
      refine ⟨_, (ss_cons (s_set (q_call F 0 (d_L_take T) (a_cons (q_var F 0) (a_cons q_int a_nil))) (g_name F 5)) (ss_cons (s_if (QW.pt (w_or (t_cmp o_lt (q_var F 2) q_int) (w_or1 (t_cmp o_lt (q_var F 5) q_int)))) (ss_one (s_ret (q_tup (a_cons (q_call F 4 (d_L_piece T) (a_cons (q_var F 0) (a_cons (q_var F 1) a_nil))) (a_cons q_int a_nil))))) ss_nil) (ss_cons (s_if (t_cmp (o_eq F) (q_var F 5) q_int) (ss_cons (s_set (q_call F 3 (d_L_drawn T n) (a_cons (q_var F 0) (a_cons (q_var F 1) (a_cons (q_bin o_sub (q_var F 2) q_int) (a_cons (q_var F 3) (a_cons (q_var F 4) a_nil)))))) (g_tup F (gs_cons (g_name F 6) (gs_cons (g_name F 7) gs_nil)))) (ss_one (s_ret (q_tup (a_cons (q_tup (a_cons q_str (a_cons (q_var F 6) a_nil))) (a_cons (q_var F 7) a_nil)))))) ss_nil) (ss_cons (s_if (QW.pt (w_and (t_cmp o_gt (q_var F 5) q_int) (w_and1 (t_not (t_val (q_var F 4)))))) (ss_cons (s_set (q_call F 3 (d_L_drawn T n) (a_cons (q_var F 0) (a_cons (q_var F 1) (a_cons (q_bin o_sub (q_var F 2) q_int) (a_cons (q_var F 3) (a_cons q_bool a_nil)))))) (g_tup F (gs_cons (g_name F 6) (gs_cons (g_name F 7) gs_nil)))) (ss_one (s_ret (q_tup (a_cons (q_tup (a_cons (q_ix (q_lst (a_cons q_str (a_cons q_str a_nil))) (q_bin o_sub (q_var F 5) q_int)) (a_cons (q_ix (q_var F 1) (q_call F 0 (d_L_take T) (a_cons (q_var F 0) (a_cons (q_callB F 6 c_len T.n_len (by decide +kernel) (a_cons (q_var F 1) a_nil)) a_nil)))) (a_cons (q_var F 6) a_nil)))) (a_cons (q_var F 7) a_nil)))))) ss_nil) (ss_cons (s_if (t_cmp o_lt (q_var F 3) q_int) (ss_one (s_ret (q_tup (a_cons (q_call F 4 (d_L_piece T) (a_cons (q_var F 0) (a_cons (q_var F 1) a_nil))) (a_cons q_int a_nil))))) ss_nil) (ss_cons (s_set (q_lstM a_nil) (g_name F 8)) (ss_cons (s_set q_int (g_name F 9)) (ss_cons (s_set (q_callB F 1 (c_min F) T.n_min (by decide +kernel) (a_cons (q_var F 3) (a_cons (q_bin o_add q_int (q_call F 0 (d_L_take T) (a_cons (q_var F 0) (a_cons q_int a_nil)))) a_nil))) (g_name F 10)) (ss_cons (s_for F (i_rng1 F 2 T.n_range (a_cons (q_var F 10) a_nil)) (g_name F 11) (ss_cons (s_set (q_call F 3 (d_L_drawn T n) (a_cons (q_var F 0) (a_cons (q_var F 1) (a_cons (q_bin o_sub (q_var F 2) q_int) (a_cons (q_bin o_sub (q_bin o_sub (q_var F 3) (q_var F 9)) (q_bin o_sub (q_bin o_sub (q_var F 10) q_int) (q_var F 11))) (a_cons (q_var F 4) a_nil)))))) (g_tup F (gs_cons (g_name F 6) (gs_cons (g_name F 7) gs_nil)))) (ss_cons (s_expr (q_met m_append (q_var F 8) (a_cons (q_var F 6) a_nil))) (ss_one (s_set (q_bin o_add (q_var F 9) (q_var F 7)) (g_name F 9)))))) (ss_one (s_ret (q_tup (a_cons (q_tup (a_cons (q_ix (q_lst (a_cons q_str (a_cons q_str a_nil))) (q_bin o_mod (q_var F 5) q_int)) (a_cons (q_callT F 5 c_tup T.n_tuple (by decide +kernel) (a_cons (q_var F 8) a_nil)) a_nil))) (a_cons (q_var F 9) a_nil)))))))))))))), ?_⟩
      have c6 := cD6 n
      refine ⟨a, c, 9, rfl, by decide, by decide, by omega, hp, fun way M1 w0 w9 p1 o1 => ?_⟩
      obtain ⟨d, rfl⟩ : ∃ d', d = d' + 1 := ⟨d - 1, by omega⟩
      refine ifD (fun _ => ⟨a, _, x, rfl, hx, by omega, p1, fun y M2 hy p2 o2 => ⟨sm2, h y 1 M2 (cond_piece hy d w) (Nat.le_refl _) m1 (p2.mono (by omega)) (o1.trans o2)⟩⟩) (fun hd => ?_)
      have hd : ¬ ((d + 1 : Nat) : Int) < 2 := hd
      refine ifD (fun _ => ⟨a, _, x, rfl, hx, by omega, p1, fun y M2 hy p2 o2 => ⟨sm2, h y 1 M2 (cond_piece hy d w) (Nat.le_refl _) m1 (p2.mono (by omega)) (o1.trans o2)⟩⟩) (fun hw => ?_)
      have hw : ¬ way < 2 := hw
      obtain ⟨n, rfl⟩ : ∃ n', n = n' + 1 := ⟨n - 1, by omega⟩
      have cn : cD (n + 1) = 2 + 6 * cD n := rfl
      have dd : ((d + 1 : Nat) : Int) - 1 = (d : Int) := by omega
      refine ⟨rfl, ?_⟩
      cases e2 : PyData.eqv (.int way) (.int 2) with
      | true =>
        refine bqc true (by first | exact e2 | rfl) ⟨a, _, x, d, m, w, ?_, hx, by omega, by omega, m1, m30, by omega, p1, fun y u M2 hy hu um p2 o2 => ⟨rfl, sm2, sm2, ?_⟩⟩
        · show [W.ref a, .d x, .d (.int (((d + 1 : Nat) : Int) - 1)), .d (.int m), .d (.bool w)] = _
          rw [dd]
        · exact h _ u M2 (cond_not hy hu) hu um (p2.mono (by omega)) (o1.trans o2)
      | false =>
        refine bqc false (by first | exact e2 | rfl) ?_
        rw [if_neg Bool.false_ne_true]
        dsimp only [tNxt]
        refine sq_cut (fun σ M' => σ = [some (.ref a), some (.d x), some (.d (.int ((d + 1 : Nat) : Int))), some (.d (.int m)), some (.d (.bool w)), some (.d (.int way)), none, none, none, none, none, none] ∧ M1 = M') (fun N hN => ?_) ?_
        · refine ifD (fun hw6 => ?_) (fun _ => hN _ _ ⟨rfl, rfl⟩)
          have hw6 : 6 < way := hw6
          cases w with
          | true => exact hN _ _ ⟨rfl, rfl⟩
          | false =>
            refine ⟨a, _, x, d, m, true, ?_, hx, by omega, by omega, m1, m30, by omega, p1, fun y u M2 hy hu um p2 o2 => ⟨rfl, sm2, ?_⟩⟩
            · show [W.ref a, .d x, .d (.int (((d + 1 : Nat) : Int) - 1)), .d (.int m), .d (.bool true)] = _
              rw [dd]
            obtain ⟨t', ht, hm⟩ := atI_mem (xs := anyD) (show 0 ≤ way - 7 by omega) (show way - 7 < 2 by omega)
            obtain ⟨t, rfl, ht'⟩ : ∃ t : Str, t' = .str t ∧ inD (.str t) anyD = true := by
              simp only [anyD, List.mem_cons, List.not_mem_nil, or_false] at hm
              rcases hm with rfl | rfl <;> exact ⟨_, rfl, by decide +kernel⟩
            obtain ⟨zs, rfl, hl, hz⟩ := hx
            have l4 : (zs.map PyData.str).length = 4 := by rw [List.length_map, hl]
            refine ⟨_, ht, a, _, _, rfl, by rw [l4]; decide, by rw [l4]; decide, by omega, p2, fun r M3 a3 b3 p3 o3 => ?_⟩
            obtain ⟨z, e1, nz⟩ := nms_get hl hz a3 b3
            exact ⟨_, e1, sm3, sm2, h _ u M3 (cond_any ht' nz hy hu) hu um (p3.mono (by omega)) ((o1.trans o2).trans o3)⟩
        rintro _ _ ⟨rfl, rfl⟩
        refine sq_cut (fun σ M' => σ = [some (.ref a), some (.d x), some (.d (.int ((d + 1 : Nat) : Int))), some (.d (.int m)), some (.d (.bool w)), some (.d (.int way)), none, none, none, none, none, none] ∧ M1 = M' ∧ 2 ≤ m) (fun N hN => ?_) ?_
        · refine ifD (fun _ => ⟨a, _, x, rfl, hx, by omega, p1, fun y M2 hy p2 o2 => ⟨sm2, h y 1 M2 (cond_piece hy d w) (Nat.le_refl _) m1 (p2.mono (by omega)) (o1.trans o2)⟩⟩) (fun hm => ?_)
          have hm : ¬ m < 2 := hm
          exact hN _ _ ⟨rfl, rfl, by omega⟩
        rintro _ _ ⟨rfl, rfl, m2⟩
        refine ⟨sm0, fun f nf => ?_⟩
        have fa : a ≠ f := p1.ne nf
        have p1' : Pot a (c + 1) (mset M1 f (.lst [])) := p1.of (mset_ne fa)
        have o1' : Oth a M (mset M1 f (.lst [])) := fun b o nb e => by
          have := o1 b o nb e
          rw [mset_ne (by rintro rfl; rw [nf] at this; cases this)]
          exact this
        refine ⟨a, _, 5, rfl, by decide, by decide, by omega, p1', fun r M2 a2 b2 p2 o2 => ?_⟩
        have f2 : M2 f = some (.lst []) := o2 f _ fa.symm mset_same
        obtain ⟨many, hmany⟩ : ∃ many : Int, many = min m (2 + r) := ⟨_, rfl⟩
        have lo2 : 2 ≤ many := by omega
        have hi6 : many ≤ 6 := by omega
        have him : many ≤ m := by omega
        dsimp only [gNam]
        refine ⟨⟨by omega, by omega⟩, fun j σ M' => ∃ (qs : List (PyData × Nat)) (i6 i7 i11 : Option W), σ = [some (.ref a), some (.d x), some (.d (.int ((d + 1 : Nat) : Int))), some (.d (.int m)), some (.d (.bool w)), some (.d (.int way)), i6, i7, some (.ref f), some (.d (.int (((qs.map (·.2)).sum : Nat) : Int))), some (.d (.int (min m (2 + r)))), i11] ∧ (j : Int) ≤ many ∧ qs.length = j ∧ (∀ q ∈ qs, CondX d q.2 w q.1 ∧ 1 ≤ q.2) ∧ (((qs.map (·.2)).sum : Nat) : Int) ≤ m - (many - j) ∧ M' f = some (.lst ((qs.map (·.1)).map W.d)) ∧ Pot a (c + 2 + cD n * j) M' ∧ Oth a M M', ⟨[], _, _, _, rfl, by omega, rfl, by simp, by simp; omega, f2, p2, o1'.trans o2⟩, fun _ _ _ _ => trivial, ?_, ?_⟩
        · rintro j v σ M3 hj ⟨qs, i6, i7, i11, rfl, hjm, hl, hq, hs, hf, p3, o3⟩
          obtain ⟨hj', rfl⟩ := rng_get hj
          have hj2 : (j : Int) < many := by omega
          have j6 : j < 6 := by omega
          have cj : cD n * j + cD n = cD n * (j + 1) := by rw [Nat.mul_add, Nat.mul_one]
          have c5 : cD n * (j + 1) ≤ cD n * 6 := Nat.mul_le_mul_left _ (by omega)
          refine ⟨a, _, x, d, m - (((qs.map (·.2)).sum : Nat) : Int) - (many - 1 - (0 + (j : Int))), w, ?_, hx, by omega, by omega, by omega, by omega, by omega, p3, fun y u M4 hy hu um p4 o4 => ⟨rfl, ?_⟩⟩
          · show [W.ref a, .d x, .d (.int (((d + 1 : Nat) : Int) - 1)), .d (.int (m - (((qs.map (·.2)).sum : Nat) : Int) - (min m (2 + r) - 1 - (0 + (j : Int))))), .d (.bool w)] = _
            rw [dd, hmany]
          have f4 : M4 f = some (.lst ((qs.map (·.1)).map W.d)) := o4 f _ fa.symm hf
          refine ⟨⟨_, f4⟩, _, f4, by rw [List.length_map, List.length_map, sizeLine_eq]; omega, ?_⟩
          have es : (((qs.map (·.2)).sum : Nat) : Int) + (u : Int) = ((((qs ++ [(y, u)]).map (·.2)).sum : Nat) : Int) := by simp
          refine ⟨qs ++ [(y, u)], some (.d y), some (.d (.int u)), some (.d (.int (0 + (j : Int)))), ?_, by omega, by simp [hl], ?_, by rw [← es]; omega, ?_, ?_, ?_⟩
          · rw [← es]
            rfl
          · intro q hq'
            rcases List.mem_append.mp hq' with h1 | h1
            · exact hq q h1
            · rw [List.mem_singleton.mp h1]; exact ⟨hy, hu⟩
          · rw [mset_same]; simp
          · exact (p4.mono (by omega)).of (mset_ne fa)
          · intro b o nb e
            have := o4 b o nb (o3 b o nb e)
            have nbf : b ≠ f := by
              rintro rfl
              have := o1 b o nb e
              rw [nf] at this
              cases this
            rw [mset_ne nbf]
            exact this
        · rintro σ M3 ⟨qs, i6, i7, i11, rfl, hjm, hl, hq, hs, hf, p3, o3⟩
          rw [rng_len] at hl hjm hs p3
          have hl' : (qs.length : Int) = many := by omega
          have r2 := fm_lo (x := way) (m := 2) (by decide)
          have r3 := fm_hi (x := way) (m := 2) (by decide)
          obtain ⟨t', ht, hm⟩ := atI_mem (xs := joinD) r2 r3
          obtain ⟨t, rfl, ht'⟩ : ∃ t : Str, t' = .str t ∧ inD (.str t) joinD = true := by
            simp only [joinD, List.mem_cons, List.not_mem_nil, or_false] at hm
            rcases hm with rfl | rfl <;> exact ⟨_, rfl, by decide +kernel⟩
          refine ⟨sm2, (show (2 : Int) ≠ 0 by decide), _, ht, _, hf, dataQ_of ⟨sm2, sm2, ?_⟩⟩
          have c5 : cD n * (min m (2 + r)).toNat ≤ cD n * 6 := Nat.mul_le_mul_left _ (by omega)
          have hs1 : ∀ l : List (PyData × Nat), (∀ q ∈ l, 1 ≤ q.2) → l.length ≤ (l.map (·.2)).sum := by
            intro l
            induction l with
            | nil => intro _; exact Nat.le_refl _
            | cons q l ih =>
              intro hh
              have := ih fun x hx => hh x (List.mem_cons_of_mem _ hx)
              have := hh q List.mem_cons_self
              simp only [List.map_cons, List.sum_cons, List.length_cons]
              omega
          have := hs1 qs fun q h' => (hq q h').2
          exact h _ _ M3 (cond_join ht' (by omega) (by omega) hq) (by omega) (by omega) (p3.mono (by omega)) o3
/-- a condition drawn -/
structure CdX (x : PyData) : Prop where
  c : isCond x = true
  f : Fn B1 13000 12 x
  l : x.canLay0 = true
def spPcC : SpD := fun ws M Q _ => ∃ (a : Addr) (n : Nat) (x : PyData), ws = [.ref a, .d x] ∧ Nms x ∧ n + 300000 ≤ lots ∧ Pot a n M ∧ ∀ x M', CdX x → Pot a (n + 300000) M' → Oth a M M' → Q (.d x) M'
theorem spPcC_len : ∀ ws M Q E, spPcC ws M Q E → ws.length = 2 := by rintro _ _ _ _ ⟨a, n, x, rfl, _⟩; rfl
theorem d_L_condition {g : Gc} (T : Txt g) : Df g 11 "_law_condition" ["_law_pot_here", "_law_names_here"] spPcC := by
  refine df_of (k := 10) (i := i_L_condition) T.p_L_condition T.sy sc_L_condition ok_L_condition (fun _ _ _ _ _ _ us hl => match us, hl with | [_, _], _ => rfl) ?_ (fun Y ws M Q E F hE h => ?_)
  · exact spPcC_len
  · obtain ⟨a, n, x, rfl, hx, hn, hp, h⟩ := h
    refine ⟨_, (ss_one (s_ret (q_ix (q_call F 0 (d_L_drawn T 7) (a_cons (q_var F 0) (a_cons (q_var F 1) (a_cons (q_ix (q_lst (a_cons q_int (a_cons q_int (a_cons q_int (a_cons q_int a_nil))))) (q_call F 1 (d_L_take T) (a_cons (q_var F 0) (a_cons q_int a_nil)))) (a_cons (q_ix (q_lst (a_cons q_int (a_cons q_int (a_cons q_int a_nil)))) (q_call F 1 (d_L_take T) (a_cons (q_var F 0) (a_cons q_int a_nil)))) (a_cons q_bool a_nil)))))) q_int))), ?_⟩
    have c6 : cD 6 = 298598 := by decide
    refine ⟨sm4, a, n, 4, rfl, by decide, by decide, by omega, hp, fun r1 M1 a1 b1 p1 o1 => ?_⟩
    obtain ⟨d', hd, hm⟩ := atI_mem (xs := [PyData.int 6, .int 6, .int 3, .int 1]) a1 b1
    obtain ⟨d, rfl, d1, d6⟩ : ∃ d : Nat, d' = .int d ∧ 1 ≤ d ∧ d ≤ 6 := by
      simp only [List.mem_cons, List.not_mem_nil, or_false] at hm
      rcases hm with rfl | rfl | rfl | rfl
      · exact ⟨6, rfl, by decide, by decide⟩
      · exact ⟨6, rfl, by decide, by decide⟩
      · exact ⟨3, rfl, by decide, by decide⟩
      · exact ⟨1, rfl, by decide, by decide⟩
    refine ⟨_, hd, sm3, a, _, 3, rfl, by decide, by decide, by omega, p1, fun r2 M2 a2 b2 p2 o2 => ?_⟩
    obtain ⟨m', hm', hmm⟩ := atI_mem (xs := [PyData.int 30, .int 9, .int 4]) a2 b2
    obtain ⟨m, rfl, m1, m30⟩ : ∃ m : Int, m' = .int m ∧ 1 ≤ m ∧ m ≤ 30 := by
      simp only [List.mem_cons, List.not_mem_nil, or_false] at hmm
      rcases hmm with rfl | rfl | rfl <;> exact ⟨_, rfl, by decide, by decide⟩
    refine ⟨_, hm', a, _, x, d, m, false, rfl, hx, d1, d6, m1, m30, (show n + 1 + 1 + cD 6 ≤ lots by omega), p2, fun y u M3 hy hu um p3 o3 => ⟨_, at0, ?_⟩⟩
    have p3 : Pot a (n + 1 + 1 + cD 6) M3 := p3
    refine h y M3 ⟨?_, hy.f.mono (Nat.le_refl _) ?_ (by omega), hy.l⟩ (p3.mono (by omega)) ((o1.trans o2).trans o3)
    · have := hy.p (6 - d)
      rw [show d + (6 - d) = 6 by omega] at this
      unfold isCond
      rw [this]
      show decide ((u : Int) ≤ 30) = true
      exact decide_eq_true (by omega)
    · have h1 : u ≤ 30 := by omega
      have : u * (250 + 30 * d) ≤ 30 * 430 := Nat.mul_le_mul h1 (by omega)
      omega
end Ms
set_option Elab.async false
set_option linter.all false
set_option maxRecDepth 100000
namespace Ms
open PySem PySem.Spec PyProof.Rows L2 Dl
/-- something bent, n deep -/
def spBent : Nat → SpD
  | 0 => spNo
  | n + 1 => fun ws M Q _ => ∃ (a : Addr) (c : Nat) (x : PyData) (deep : Int) (w d : Nat), ws = [.ref a, .d x, .d (.int deep)] ∧ 0 ≤ deep ∧ deep ≤ n ∧ Fn B1 w d x ∧ x.canLay0 = true ∧ w ≤ 30000 ∧ d ≤ 60 ∧ c + 5 * (n + 1) ≤ lots ∧ Pot a c M ∧
    ∀ y M', Fn B2 (2 * w + 400) (d + 3) y → Pot a (c + 5 * (n + 1)) M' → Oth a M M' → Q (.d y) M'
theorem spBent_len {n} : ∀ ws M Q E, spBent n ws M Q E → ws.length = 3 := by
  cases n with
  | zero => intro _ _ _ _ h; exact h.elim
  | succ n => rintro _ _ _ _ ⟨a, c, x, deep, w, d, rfl, _⟩; rfl
theorem d_L_bent {g : Gc} (T : Txt g) : ∀ n : Nat, Df g (3 + n) "_law_bent" ["_law_pot_here", "_law_thing", "_law_deep"] (spBent n)
  | 0 => df_of (k := 2) (i := i_L_bent) T.p_L_bent T.sy sc_L_bent ok_L_bent (fun _ _ _ _ _ _ us hl => match us, hl with | [_, _, _], _ => rfl) (fun _ _ _ _ (h : False) => h.elim) (fun _ _ _ _ _ _ _ (h : False) => h.elim)
  | n + 1 => by
    refine df_of (k := 3 + n) (i := i_L_bent) T.p_L_bent T.sy sc_L_bent ok_L_bent (fun _ _ _ _ _ _ us hl => match us, hl with | [_, _, _], _ => rfl) ?_ (fun Y ws M Q E F hE h => ?_)
    · exact spBent_len
    · obtain ⟨a, c, x, deep, w, d, rfl, d0, dn, fx, lay, hw, hd, hc, hp, h⟩ := h
      refine ⟨_, (ss_cons (s_set (q_call F 0 (d_L_take T) (a_cons (q_var F 0) (a_cons q_int a_nil))) (g_name F 3)) (ss_cons (s_set (q_call F 1 (d_L_odd T) (a_cons (q_var F 0) a_nil)) (g_name F 4)) (ss_cons (s_if (QW.pt (w_and (t_val (q_isi F 2 3 isk_str T.n_isinstance T.n_str (by decide +kernel) (q_var F 1))) (w_and1 (t_cmp o_lt (q_var F 3) q_int)))) (ss_cons (s_set (q_call F 0 (d_L_take T) (a_cons (q_var F 0) (a_cons (q_bin o_add (q_callB F 7 c_len T.n_len (by decide +kernel) (a_cons (q_var F 1) a_nil)) q_int) a_nil))) (g_name F 5)) (ss_cons (s_set (q_ix (q_lst (a_cons q_str (a_cons q_str (a_cons q_str (a_cons q_str (a_cons q_str (a_cons q_str a_nil))))))) (q_var F 3)) (g_name F 6)) (ss_one (s_ret (q_ix (q_lst (a_cons (q_bin o_add (q_bin o_add (q_sl (q_var F 1) o_no (o_sm (q_var F 5))) (q_var F 6)) (q_sl (q_var F 1) (o_sm (q_var F 5)) o_no)) (a_cons (q_bin o_add (q_sl (q_var F 1) o_no (o_sm (q_var F 5))) (q_sl (q_var F 1) (o_sm (q_bin o_add (q_var F 5) q_int)) o_no)) a_nil))) (q_call F 0 (d_L_take T) (a_cons (q_var F 0) (a_cons q_int a_nil)))))))) ss_nil) (ss_cons (s_if (t_not (t_val (q_isi F 2 4 isk_tuple T.n_isinstance T.n_tuple (by decide +kernel) (q_var F 1)))) (ss_cons (s_if (QW.pt (w_or (t_not (t_val (q_isi F 2 9 isk_int T.n_isinstance T.n_int (by decide +kernel) (q_var F 1)))) (w_or (t_val (q_isi F 2 6 isk_bool T.n_isinstance T.n_bool (by decide +kernel) (q_var F 1))) (w_or1 (t_cmp o_gt (q_var F 3) q_int))))) (ss_one (s_ret (q_var F 4))) ss_nil) (ss_one (s_ret (q_bin o_add (q_var F 1) (q_ix (q_lst (a_cons q_int (a_cons (q_neg q_int) (a_cons q_int (a_cons (q_neg q_int) (a_cons (q_bin o_pow q_int q_int) (a_cons (q_neg (q_bin o_pow q_int q_int)) a_nil))))))) (q_var F 3)))))) ss_nil) (ss_cons (s_set (q_call F 0 (d_L_take T) (a_cons (q_var F 0) (a_cons (q_callB F 5 (c_max F) T.n_max (by decide +kernel) (a_cons q_int (a_cons (q_callB F 7 c_len T.n_len (by decide +kernel) (a_cons (q_var F 1) a_nil)) a_nil))) a_nil))) (g_name F 5)) (ss_cons (s_if (QW.pt (w_and (t_cmp o_gt (q_var F 2) q_int) (w_and (t_cmp (o_ne F) (q_var F 1) (q_tup a_nil)) (w_and1 (t_cmp o_gt (q_call F 0 (d_L_take T) (a_cons (q_var F 0) (a_cons q_int a_nil))) q_int))))) (ss_one (s_ret (q_bin o_add (q_bin o_add (q_sl (q_var F 1) o_no (o_sm (q_var F 5))) (q_tup (a_cons (q_call F 10 (d_L_bent T n) (a_cons (q_var F 0) (a_cons (q_ix (q_var F 1) (q_var F 5)) (a_cons (q_bin o_sub (q_var F 2) q_int) a_nil)))) a_nil))) (q_sl (q_var F 1) (o_sm (q_bin o_add (q_var F 5) q_int)) o_no)))) ss_nil) (ss_cons (s_set (q_lst (a_cons (q_bin o_add (q_sl (q_var F 1) o_no (o_sm (q_var F 5))) (q_sl (q_var F 1) (o_sm (q_bin o_add (q_var F 5) q_int)) o_no)) (a_cons (q_bin o_add (q_sl (q_var F 1) o_no (o_sm (q_bin o_add (q_var F 5) q_int))) (q_sl (q_var F 1) (o_sm (q_var F 5)) o_no)) a_nil))) (g_name F 7)) (ss_cons (s_set (q_bin o_add (q_var F 7) (q_lst (a_cons (q_bin o_add (q_bin o_add (q_sl (q_var F 1) o_no (o_sm (q_var F 5))) (q_tup (a_cons (q_var F 4) a_nil))) (q_sl (q_var F 1) (o_sm (q_var F 5)) o_no)) (a_cons (q_rev (q_var F 1) (q_neg q_int)) (a_cons (q_callT F 8 c_lst T.n_list (by decide +kernel) (a_cons (q_var F 1) a_nil)) a_nil))))) (g_name F 7)) (ss_one (s_ret (q_ix (q_bin o_add (q_var F 7) (q_lst (a_cons (q_bin o_add (q_sl (q_var F 1) (o_sm (q_var F 5)) o_no) (q_sl (q_var F 1) o_no (o_sm (q_var F 5)))) (a_cons (q_bin o_add (q_var F 1) (q_tup (a_cons (q_var F 4) a_nil))) (a_cons (q_var F 4) a_nil))))) (q_var F 3)))))))))))), ?_⟩
      refine ⟨a, c, 8, rfl, by decide, by decide, by omega, hp, fun way M1 w0 w8 p1 o1 => ?_⟩
      refine ⟨a, _, rfl, by omega, p1, fun odd M2 ho p2 o2 => ?_⟩
      have ho2 : Fn B2 (2 * w + 400) (d + 3) odd := ho.mono (by decide) (by omega) (by omega)
      have o12 := o1.trans o2
      have oddR : Q (.d odd) M2 := h odd M2 ho2 (p2.mono (by omega)) o12
      cases x with
      | str z =>
        have hz : z.length ≤ w := fx.w
        have oz : PyData.strOk z = true := fx.o
        have c1 := cutS_length z
        refine ifD (fun hw6 => ?_) (fun _ => oddR)
        have hw6 : way < 6 := hw6
        refine ⟨small_of (by omega), a, _, z.length + 1, rfl, by omega, ?_, by omega, p2, fun at' M3 t0 t1 p3 o3 => ⟨sm6, ?_⟩⟩
        · have : (2 : Nat) ^ 2000 = 2 ^ 20 * 2 ^ 1980 := by rw [← Nat.pow_add]
          have h1 : 1 ≤ (2 : Nat) ^ 1980 := Nat.one_le_two_pow
          have h2 : (2 : Nat) ^ 20 * 1 ≤ 2 ^ 20 * 2 ^ 1980 := Nat.mul_le_mul_left _ h1
          rw [this]
          have e20 : (2 : Nat) ^ 20 = 1048576 := by decide
          rw [e20] at h2 ⊢
          omega
        obtain ⟨sg, hs, hm⟩ := atI_mem (xs := [PyData.str "a", .str "z", .str " ", .str "A", .str "1", .str "-"]) w0 (show way < 6 from hw6)
        obtain ⟨g', rfl, og, lg⟩ : ∃ g' : Str, sg = .str g' ∧ PyData.strOk g' = true ∧ g'.length ≤ 1 := by
          simp only [List.mem_cons, List.not_mem_nil, or_false] at hm
          rcases hm with rfl | rfl | rfl | rfl | rfl | rfl <;> exact ⟨_, rfl, by decide +kernel, by decide +kernel⟩
        refine ⟨_, hs, small_of (by omega), small_of ?_, small_of (by omega), small_of ?_, small_of (by omega), small_of (by omega), small_of ?_, sm2, ?_⟩
        · have := c1 none (some at')
          omega
        · have h1 := c1 none (some at')
          have h2 := c1 (some at') none
          rw [strLen_append]
          omega
        · have h1 := c1 none (some at')
          have h2 := c1 (some (at' + 1)) none
          omega
        refine ⟨a, _, 2, rfl, by decide, by decide, by omega, p3, fun r2 M4 a2 b2 p4 o4 => ?_⟩
        obtain ⟨y, hy, hmy⟩ := atI_mem (xs := [PyData.str (cutS z none (some at') ++ g' ++ cutS z (some at') none), .str (cutS z none (some at') ++ cutS z (some (at' + 1)) none)]) a2 b2
        refine ⟨y, hy, h y M4 ?_ (p4.mono (by omega)) ((o12.trans o3).trans o4)⟩
        have h1 := c1 none (some at')
        have h2 := c1 (some at') none
        have h3 := c1 (some (at' + 1)) none
        simp only [List.mem_cons, List.not_mem_nil, or_false] at hmy
        rcases hmy with rfl | rfl
        · exact Fn.strW (strOk_app (strOk_app (strOk_cut oz _ _) og) (strOk_cut oz _ _)) (by rw [strLen_append, strLen_append]; omega)
        · exact Fn.strW (strOk_app (strOk_cut oz _ _) (strOk_cut oz _ _)) (by rw [strLen_append]; omega)
      | tuple xs =>
        obtain ⟨d, rfl⟩ : ∃ d', d = d' + 1 := ⟨d - 1, by have := fx.pos; omega⟩
        have fa := fx.items
        have hl := fa.len
        refine ⟨a, _, max 1 (xs.length : Int), rfl, by omega, ?_, by omega, p2, fun at' M3 t0 t1 p3 o3 => ?_⟩
        · have : (2 : Nat) ^ 2000 = 2 ^ 20 * 2 ^ 1980 := by rw [← Nat.pow_add]
          have h1 : 1 ≤ (2 : Nat) ^ 1980 := Nat.one_le_two_pow
          have h2 : (2 : Nat) ^ 20 * 1 ≤ 2 ^ 20 * 2 ^ 1980 := Nat.mul_le_mul_left _ h1
          rw [this]
          have e20 : (2 : Nat) ^ 20 = 1048576 := by decide
          rw [e20] at h2 ⊢
          omega
        obtain ⟨k, rfl⟩ := Int.eq_ofNat_of_zero_le t0
        dsimp only [gNam]
        refine sq_cut (fun σ M' => σ = [some (.ref a), some (.d (.tuple xs)), some (.d (.int deep)), some (.d (.int way)), some (.d odd), some (.d (.int (k : Int))), none, none] ∧ Pot a (c + 4) M' ∧ Oth a M M') (fun N hN => ?_) ?_
        · refine ifD (fun hdp => ?_) (fun _ => hN _ _ ⟨rfl, p3.mono (by omega), o12.trans o3⟩)
          have hdp : 0 < deep := hdp
          refine ⟨sm0, ?_, ?_⟩
          · unfold neOk
            rw [lay]
            simp [PyData.canLay0, PyData.canLayAll0, PyData.depth, PyData.depthAll]
          by_cases hx : xs = []
          · subst hx
            exact bqc false (by simp [PyData.eqv, PyData.eqvAll]) (hN _ _ ⟨rfl, p3.mono (by omega), o12.trans o3⟩)
          refine bqc true (by cases xs with | nil => exact absurd rfl hx | cons _ _ => simp [PyData.eqv, PyData.eqvAll]) ?_
          refine ⟨a, _, 4, rfl, by decide, by decide, by omega, p3, fun r4 M4 a4 b4 p4 o4 => ?_⟩
          refine ifD (fun _ => ?_) (fun _ => hN _ _ ⟨rfl, p4.mono (by omega), (o12.trans o3).trans o4⟩)
          have hne : 1 ≤ xs.length := by cases xs with | nil => exact absurd rfl hx | cons _ _ => simp
          have hk : k < xs.length := by omega
          obtain ⟨m, rfl⟩ : ∃ m, n = m + 1 := ⟨n - 1, by omega⟩
          have s3 : xs = xs.take k ++ xs[k] :: xs.drop (k + 1) := by rw [← List.drop_eq_getElem_cons hk, List.take_append_drop]
          have mem : xs[k] ∈ xs := List.getElem_mem hk
          have fm := fa.mem mem
          have layk : xs[k].canLay0 = true := lay_mem lay mem
          have wk := fm.w
          refine ⟨_, atI_nat (List.getElem?_eq_getElem hk), a, _, xs[k], deep - 1, xs[k].weight, d, rfl, by omega, by omega, ⟨fm.o, Nat.le_refl _, fm.d⟩, layk, by omega, by omega, by omega, p4, fun y M5 fy p5 o5 => ?_⟩
          have l1 := (fa.cut none (some (k : Int))).len
          have l2 := (fa.cut (some ((k : Int) + 1)) none).len
          refine ⟨sm1, small_of (by show _ + 1 ≤ _; omega), small_of (by rw [List.length_append]; show (_ + 1) + _ ≤ _; omega), ?_⟩
          refine h _ M5 ?_ (p5.mono (by omega)) (((o12.trans o3).trans o4).trans o5)
          have bb : B1 ≤ B2 := by decide
          have fw := fa.w
          rw [s3, wAll_app] at fw
          simp only [PyData.weightAll] at fw
          have e1 : cut xs none (some (k : Int)) = xs.take k := cut_to _ _
          have e2 : cut xs (some ((k : Int) + 1)) none = xs.drop (k + 1) := cut_from xs (k + 1)
          have q1 : FnA B2 (PyData.weightAll (xs.take k)) (d + 3) (xs.take k) := ⟨okLA_mono bb _ (fa.take k).o, Nat.le_refl _, Nat.le_trans (fa.take k).d (by omega)⟩
          have q2 : FnA B2 (PyData.weightAll (xs.drop (k + 1))) (d + 3) (xs.drop (k + 1)) := ⟨okLA_mono bb _ (fa.drop _).o, Nat.le_refl _, Nat.le_trans (fa.drop _).d (by omega)⟩
          have z := (q1.app (FnA.one fy)).app q2
          rw [← e1, ← e2] at z
          exact z.tup.mono (Nat.le_refl _) (by rw [e1, e2]; omega) (by omega)
        · rintro _ M4 ⟨rfl, p4, o4⟩
          have ct : ∀ lo hi, (cut xs lo hi).length ≤ 30000 := fun lo hi => by
            have := (fa.cut lo hi).len
            omega
          have e1 : ∀ lo hi lo' hi', small ((cut xs lo hi).length + (cut xs lo' hi').length) := fun lo hi lo' hi' => small_of (by have := ct lo hi; have := ct lo' hi'; omega)
          have e2 : ∀ lo hi, small ((cut xs lo hi).length + 1) := fun lo hi => small_of (by have := ct lo hi; omega)
          have e3 : ∀ lo hi lo' hi', small ((cut xs lo hi ++ [odd]).length + (cut xs lo' hi').length) := fun lo hi lo' hi' => small_of (by rw [List.length_append]; have := ct lo hi; have := ct lo' hi'; simp; omega)
          refine ⟨e1 _ _ _ _, e1 _ _ _ _, sm2, sm1, e2 _ _, e3 _ _ _ _, rfl, sm3, sm5, e1 _ _ _ _, sm1, small_of (by simp; omega), sm3, sm8, ?_⟩
          obtain ⟨y, hy, hm⟩ := atI_mem (xs := [PyData.tuple (cut xs none (some (k : Int)) ++ cut xs (some ((k : Int) + 1)) none), .tuple (cut xs none (some ((k : Int) + 1)) ++ cut xs (some (k : Int)) none), .tuple (cut xs none (some (k : Int)) ++ [odd] ++ cut xs (some (k : Int)) none), .tuple xs.reverse, .list xs,
            .tuple (cut xs (some (k : Int)) none ++ cut xs none (some (k : Int))), .tuple (xs ++ [odd]), odd]) w0 w8
          refine ⟨y, hy, h y M4 ?_ (p4.mono (by omega)) o4⟩
          have od : Fn B1 200 (d + 2) odd := ho.mono (Nat.le_refl _) (Nat.le_refl _) (by omega)
          have fb := fa.mono (Nat.le_refl B1) (Nat.le_refl w) (show d ≤ d + 2 by omega)
          have bb : B1 ≤ B2 := by decide
          simp only [List.mem_cons, List.not_mem_nil, or_false] at hm
          rcases hm with rfl | rfl | rfl | rfl | rfl | rfl | rfl | rfl
          · exact ((fb.cut _ _).app (fb.cut _ _)).tup.mono bb (by omega) (by omega)
          · exact ((fb.cut _ _).app (fb.cut _ _)).tup.mono bb (by omega) (by omega)
          · have z : PyData.weightAll (cut xs none (some (k : Int))) + PyData.weightAll (cut xs (some (k : Int)) none) ≤ w := by
              rw [cut_to, cut_from, ← wAll_app, List.take_append_drop]
              exact fa.w
            have q1 : FnA B1 (PyData.weightAll (cut xs none (some (k : Int)))) (d + 2) (cut xs none (some (k : Int))) := ⟨(fb.cut _ _).o, Nat.le_refl _, (fb.cut _ _).d⟩
            have q2 : FnA B1 (PyData.weightAll (cut xs (some (k : Int)) none)) (d + 2) (cut xs (some (k : Int)) none) := ⟨(fb.cut _ _).o, Nat.le_refl _, (fb.cut _ _).d⟩
            exact ((q1.app (FnA.one od)).app q2).tup.mono bb (by omega) (by omega)
          · exact fb.rev.tup.mono bb (by omega) (by omega)
          · exact fb.lst.mono bb (by omega) (by omega)
          · exact ((fb.cut _ _).app (fb.cut _ _)).tup.mono bb (by omega) (by omega)
          · exact (fb.app (FnA.one od)).tup.mono bb (by omega) (by omega)
          · exact ho2
      | int i =>
        have hi : i.natAbs < B1 := of_decide_eq_true fx.o
        refine ifD (fun _ => oddR) (fun hw => ?_)
        have hw : ¬ 5 < way := hw
        have p6 : powOk 10 6 := powOk_of (n := 4) (by decide) (by decide) (by decide)
        refine ⟨p6, p6, sm6, ?_⟩
        obtain ⟨v, hv, hm⟩ := atI_mem (xs := [PyData.int 1, .int (-1), .int 2, .int (-2), .int 1000000, .int (-1000000)]) w0 (show way < 6 by omega)
        obtain ⟨v', rfl, lv⟩ : ∃ v' : Int, v = .int v' ∧ v'.natAbs ≤ 1000000 := by
          simp only [List.mem_cons, List.not_mem_nil, or_false] at hm
          rcases hm with rfl | rfl | rfl | rfl | rfl | rfl <;> exact ⟨_, rfl, by decide⟩
        refine ⟨_, hv, h _ M2 (Fn.int ?_ (by decide) (by omega)) (p2.mono (by omega)) o12⟩
        have e1 : (2 : Nat) ^ 140 = 1393796574908163946345982392040522594123776 := by decide
        have e2 : (2 : Nat) ^ 141 = 2787593149816327892691964784081045188247552 := by decide
        unfold B1 at hi
        unfold B2
        rw [e1] at hi
        rw [e2]
        omega
      | bool b => exact oddR
      | none => exact oddR
      | list _ => exact oddR
      | dict _ => exact oddR
end Ms
set_option Elab.async false
set_option linter.all false
set_option maxRecDepth 100000
namespace Ms
open PySem PySem.Spec PyProof.Rows L2 Dl
/-! ### figures -/
abbrev dVal (cs : List Nat) : Nat := PySem.NumText.digitsVal cs
def isFig (c : Nat) : Bool := decide (48 ≤ c) && decide (c ≤ 57)
/-- figures that write a number as it is written -/
def figs (z : Str) : Bool := decide (1 ≤ z.length) && decide (z.length ≤ 7) && z.cps.toList.all isFig && !(PyData.eqv (.str (⟨#[z.cps.toList.headD 0]⟩ : Str)) (.str "0") && !PyData.eqv (.str z) (.str "0"))
def numOf (z : Str) : PyData := if figs z = true ∧ dVal z.cps.toList ≤ 1000000 then .int (dVal z.cps.toList : Nat) else .none
theorem fig_in (c : Nat) : within ⟨#[c]⟩ "0123456789" = isFig c := by
  rw [within_one]
  unfold isFig
  rw [← Bool.decide_and]
  apply decide_eq_decide.mpr
  have e : ("0123456789" : Str).cps.toList = List.range' 48 10 := by decide +kernel
  rw [e, List.mem_range'_1]
  omega
theorem f0 : ("0" : Str).cps.toList = [48] := by decide +kernel
theorem f9 : ("9" : Str).cps.toList = [57] := by decide +kernel
theorem fig_le (c : Nat) : (!decide (([c] : List Nat) < [48]) && !decide (([57] : List Nat) < [c])) = isFig c := by
  unfold isFig
  have e1 : ([c] < [48]) ↔ c < 48 := by rw [List.cons_lt_cons_iff]; exact ⟨fun h => h.elim id fun h => absurd h.2 (List.not_lt_nil _), .inl⟩
  have e2 : ([57] < [c]) ↔ 57 < c := by rw [List.cons_lt_cons_iff]; exact ⟨fun h => h.elim id fun h => absurd h.2 (List.not_lt_nil _), .inl⟩
  rw [show decide (([c] : List Nat) < [48]) = decide (c < 48) from decide_eq_decide.mpr e1, show decide (([57] : List Nat) < [c]) = decide (57 < c) from decide_eq_decide.mpr e2]
  by_cases a : c < 48 <;> by_cases b : 57 < c <;> simp [a, b] <;> omega
def figW : W → Bool
  | .d (.str z) => (match z.cps.toList with | [c] => isFig c | _ => false)
  | _ => false
theorem figW_one (c : Nat) : figW (.d (.str ⟨#[c]⟩)) = isFig c := rfl
theorem all_figs {z : Str} (h : z.cps.toList.all isFig = true) : PySem.NumText.AllDigits z.cps.toList := by
  intro c hc
  have := List.all_eq_true.mp h c hc
  simpa [isFig] using this
theorem fig_value {z : Str} (h1 : 1 ≤ z.length) (h2 : z.length ≤ 7) (h : z.cps.toList.all isFig = true) : PySem.intText? z = some ((dVal z.cps.toList : Nat) : Int) := by
  have ne : z.cps.toList ≠ [] := by
    intro e
    have : z.cps.toList.length = z.length := by simp [Str.length]
    rw [e] at this
    simp at this
    omega
  exact PySem.intText_digits (all_figs h) ne (by omega)
/-- a text's number, read from figures -/
def spFig : SpD := fun ws M Q _ => ∃ z : Str, ws = [.d (.str z)] ∧ PyData.strOk z = true ∧ z.length ≤ 16000000 ∧ Q (.d (numOf z)) M
theorem spFig_len : ∀ ws M Q E, spFig ws M Q E → ws.length = 1 := by rintro _ _ _ _ ⟨z, rfl, _⟩; rfl
theorem num_no {z : Str} (h : figs z = false) : numOf z = .none := by unfold numOf; rw [h, if_neg]; simp
theorem head_at {z : Str} (h : 1 ≤ z.length) : z.cps.toList[0]? = some (z.cps.toList.headD 0) := by
  cases e : z.cps.toList with
  | nil =>
    have : z.cps.toList.length = z.length := by simp [Str.length]
    rw [e] at this
    simp at this
    omega
  | cons c l => rfl
theorem small_int {n : Nat} (h : n < 2 ^ 30) : True := trivial
/-! ### texts joined -/
theorem sapp (a b c : Str) : a ++ b ++ c = a ++ (b ++ c) := by
  show (⟨(a.cps ++ b.cps) ++ c.cps⟩ : Str) = ⟨a.cps ++ (b.cps ++ c.cps)⟩
  rw [Array.append_assoc]
abbrev sp_ : Str := " "
theorem len_app (a b : Str) : (a ++ b).length = a.length + b.length := by
  show (a.cps ++ b.cps).size = _
  rw [Array.size_append]
  rfl
theorem join1 (s x : Str) : Txt.join s [x] = x := by rw [TL.join_eq]; rfl
theorem join2 (s x y : Str) (r : List Str) : Txt.join s (x :: y :: r) = x ++ s ++ Txt.join s (y :: r) := by rw [TL.join_eq, TL.join_eq]; rfl
theorem join_cons {s x : Str} {r : List Str} (h : r ≠ []) : Txt.join s (x :: r) = x ++ s ++ Txt.join s r := by
  cases r with
  | nil => exact absurd rfl h
  | cons y r => exact join2 s x y r
theorem join_app {s : Str} : ∀ {l m : List Str}, l ≠ [] → m ≠ [] → Txt.join s (l ++ m) = Txt.join s l ++ s ++ Txt.join s m
  | [x], m, _, hm => by rw [List.singleton_append, join_cons hm, join1]
  | x :: y :: r, m, _, hm => by
    rw [List.cons_append, join_cons (by simp), join_app (l := y :: r) (by simp) hm, join2, sapp, sapp, sapp, sapp, sapp]
/-- all signs of some texts, and one more of each -/
def tot : List Str → Nat
  | [] => 0
  | x :: r => x.length + 1 + tot r
theorem tot_app : ∀ l m : List Str, tot (l ++ m) = tot l + tot m
  | [], m => by simp [tot]
  | x :: l, m => by
    show x.length + 1 + tot (l ++ m) = x.length + 1 + tot l + tot m
    rw [tot_app l m]
    omega
theorem join_tot {s : Str} (h : s.length = 1) : ∀ {l : List Str}, l ≠ [] → (Txt.join s l).length + 1 = tot l
  | [x], _ => by rw [join1]; rfl
  | x :: y :: r, _ => by
    rw [join2, len_app, len_app, h]
    have := join_tot h (l := y :: r) (by simp)
    show x.length + 1 + _ + 1 = x.length + 1 + tot (y :: r)
    omega
theorem join_tot_le {s : Str} (h : s.length = 1) (l : List Str) : (Txt.join s l).length ≤ tot l := by
  cases l with
  | nil => rw [show Txt.join s [] = "" by rw [TL.join_eq]; rfl]; decide +kernel
  | cons x r => have := join_tot h (l := x :: r) (by simp); omega
theorem sum_tot : ∀ l : List Str, (l.map (·.length)).sum + l.length = tot l
  | [] => rfl
  | x :: r => by
    have := sum_tot r
    simp only [List.map_cons, List.sum_cons, List.length_cons, tot]
    omega
theorem tot_take (l : List Str) (n : Nat) : tot (l.take n) ≤ tot l := by
  have := tot_app (l.take n) (l.drop n)
  rw [List.take_append_drop] at this
  omega
theorem tot_drop (l : List Str) (n : Nat) : tot (l.drop n) ≤ tot l := by
  have := tot_app (l.take n) (l.drop n)
  rw [List.take_append_drop] at this
  omega
theorem tot_mem : ∀ {l : List Str} {x : Str}, x ∈ l → x.length + 1 ≤ tot l
  | y :: r, x, h => by
    simp only [tot]
    rcases List.mem_cons.mp h with e | h
    · rw [e]; omega
    · have := tot_mem h; omega
theorem tot_set : ∀ (l : List Str) (i : Nat) (x : Str), tot (l.set i x) ≤ tot l + x.length
  | [], _, _ => by simp [tot]
  | y :: r, 0, x => by simp only [List.set_cons_zero, tot]; omega
  | y :: r, i + 1, x => by
    have := tot_set r i x
    simp only [List.set_cons_succ, tot]
    omega
theorem ofString_ok (s : String) : PyData.strOk (Str.ofString s) = true := by
  rw [Str.ofString_eq_toList]
  simp only [PyData.strOk, List.all_toArray, List.all_map, List.all_eq_true, Function.comp_apply, decide_eq_true_eq]
  intro c _
  have := c.valid
  show c.val.toNat < _
  rcases this with h | h
  · have : c.val.toNat < 55296 := h
    omega
  · exact h.2
theorem join_ok {s : Str} (hs : PyData.strOk s = true) : ∀ {l : List Str}, (∀ z ∈ l, PyData.strOk z = true) → PyData.strOk (Txt.join s l) = true
  | [], _ => by rw [show Txt.join s [] = "" by rw [TL.join_eq]; rfl]; decide +kernel
  | [x], h => by rw [join1]; exact h x List.mem_cons_self
  | x :: y :: r, h => by
    rw [join2]
    exact strOk_app (strOk_app (h x List.mem_cons_self) hs) (join_ok hs (l := y :: r) fun z hz => h z (List.mem_cons_of_mem _ hz))
theorem strOk_iff {z : Str} : PyData.strOk z = true ↔ ∀ c ∈ z.cps.toList, c < 1114112 := by
  unfold PyData.strOk
  rw [Array.all_eq_true_iff_forall_mem]
  simp
/-- the parts of a text are texts -/
theorem part_ok {s : Str} : ∀ {l : List Str}, PyData.strOk (Txt.join s l) = true → ∀ z ∈ l, PyData.strOk z = true
  | [x], h, z, hz => by
    rw [join1] at h
    rw [List.mem_singleton.mp hz]
    exact h
  | x :: y :: r, h, z, hz => by
    rw [join2, strOk_iff] at h
    have ap : ∀ a b : Str, (a ++ b).cps.toList = a.cps.toList ++ b.cps.toList := fun a b => by
      show (a.cps ++ b.cps).toList = _
      simp
    rcases List.mem_cons.mp hz with e | hz
    · rw [e, strOk_iff]
      intro c hc
      exact h c (by rw [ap, ap]; simp [hc])
    · refine part_ok (l := y :: r) (s := s) ?_ z hz
      rw [strOk_iff]
      intro c hc
      exact h c (by rw [ap]; simp [hc])
theorem split_ne (x y : Str) : Txt.split x y ≠ [] := by
  intro e
  unfold Txt.split at e
  split at e
  · cases e
  · split at e
    · cases e
    · obtain ⟨p, r, e2⟩ := PySem.StrLaws.partsFrom_ne x y.length 0 _
      rw [PySem.StrLaws.partsBetween_eq, e2] at e
      cases e
theorem split_back (x y : Str) : Txt.join y (Txt.split x y) = x := by
  rw [TL.join_eq]
  exact PySem.StrLaws.join_split x y
def shI (n : Int) : Str := toString n
theorem shI_len {n : Int} (h0 : 0 ≤ n) (h1 : n ≤ 1000000) : (shI n).length ≤ 21 := by
  have := int_show_le (i := n) (n := 20) (by rw [show (2 : Nat) ^ 20 = 1048576 by decide]; omega) (by decide)
  exact this
/-! ### kinds and their texts, forth and back -/
theorem sp_free_name {z : Str} (h : isNameS z = true) : 32 ∉ TL.tl z := by
  intro hm
  simp only [isNameS, Bool.and_eq_true] at h
  have := List.all_eq_true.mp h.2 32 hm
  simp [isLow] at this
theorem sp_free_int (n : Int) : 32 ∉ TL.tl (shI n) := fun h => (PyProof.Rows.intText_free_32 n).mp h
theorem split_words {l : List Str} (ne : l ≠ []) (h : ∀ p ∈ l, 32 ∉ TL.tl p) : Txt.split (Txt.join sp_ l) sp_ = l :=
  TL.split_join (y := sp_) (s := 32) (S := []) (by decide +kernel) (by decide +kernel) ne h
theorem numL_len : ∀ (k n : Nat), 1 ≤ k → n < 10 ^ k → (TL.numL n).length ≤ k
  | k + 1, n, _, h => by
    by_cases h10 : n < 10
    · rw [TL.numL_lt h10]; simp
    · rw [TL.numL_step (by omega), List.length_append]
      have hk : 1 ≤ k := by
        cases k with
        | zero => simp at h; omega
        | succ k => omega
      have := numL_len k (n / 10) hk (by rw [Nat.pow_succ] at h; omega)
      simp only [List.length_cons, List.length_nil]
      omega
theorem numL_head (n : Nat) (h0 : 0 < n) : ∃ c r, TL.numL n = c :: r ∧ c ≠ 48 := by
  induction n using Nat.strongRecOn with
  | _ n ih =>
    by_cases h : n < 10
    · rw [TL.numL_lt h]
      exact ⟨_, _, rfl, by omega⟩
    · obtain ⟨c, r, e, hc⟩ := ih (n / 10) (by omega) (by omega)
      rw [TL.numL_step (by omega), e]
      exact ⟨c, _, rfl, hc⟩
theorem numL_figs (n : Nat) : (TL.numL n).all isFig = true := by
  induction n using Nat.strongRecOn with
  | _ n ih =>
    by_cases h : n < 10
    · rw [TL.numL_lt h]
      simp [isFig]
      omega
    · rw [TL.numL_step (by omega), List.all_append, ih (n / 10) (by omega)]
      simp [isFig]
      omega
theorem numL_val (n : Nat) : dVal (TL.numL n) = n := PySem.W.KIN.val_back n
theorem sh_tl {n : Int} (h0 : 0 ≤ n) : (shI n).cps.toList = TL.numL n.toNat := by
  obtain ⟨m, rfl⟩ := Int.eq_ofNat_of_zero_le h0
  exact TL.tl_num m
theorem str_ext {x y : Str} (h : x.cps.toList = y.cps.toList) : x = y := by
  obtain ⟨a⟩ := x
  obtain ⟨b⟩ := y
  have : a = b := Array.toList_inj.mp h
  rw [this]
theorem num_of_sh {n : Int} (h0 : 0 ≤ n) (h1 : n ≤ 1000000) : numOf (shI n) = .int n := by
  have e := sh_tl h0
  have hl : (shI n).length = (TL.numL n.toNat).length := by rw [← e]; simp [Str.length]
  have l7 := numL_len 7 n.toNat (by decide) (by have : (10 : Nat) ^ 7 = 10000000 := by decide
                                                omega)
  have hd : (PyData.eqv (.str (⟨#[(TL.numL n.toNat).headD 0]⟩ : Str)) (.str "0") && !PyData.eqv (.str (shI n)) (.str "0")) = false := by
    by_cases hn : n = 0
    · subst hn
      decide +kernel
    · obtain ⟨c, r, e2, hc⟩ := numL_head n.toNat (by omega)
      rw [e2]
      have : ((⟨#[c]⟩ : Str) = "0") = False := by
        apply eq_false
        intro q
        have : (⟨#[c]⟩ : Str).cps.toList = ("0" : Str).cps.toList := by rw [q]
        rw [f0] at this
        simp at this
        exact hc this
      simp [PyData.eqv, this]
  have l1 : 1 ≤ (TL.numL n.toNat).length := by
    by_cases hn : n.toNat = 0
    · rw [hn, TL.numL_lt (by decide)]; simp
    · obtain ⟨c, r, e2, _⟩ := numL_head n.toNat (by omega)
      rw [e2]; simp
  have hf : figs (shI n) = true := by
    unfold figs
    rw [e, hl, hd, numL_figs]
    simp
    omega
  unfold numOf
  rw [e, numL_val, if_pos ⟨hf, by omega⟩]
  congr 1
  omega
/-- figures that are written as a number is -/
theorem canon : ∀ (k : Nat) (cs : List Nat), cs.length = k → PySem.NumText.AllDigits cs → cs ≠ [] → (cs.headD 0 = 48 → cs = [48]) → TL.numL (dVal cs) = cs
  | 0, cs, h, _, ne, _ => absurd (List.length_eq_zero_iff.mp h) ne
  | k + 1, cs, h, hd, ne, hz => by
    obtain ⟨l, c, rfl⟩ : ∃ l c, cs = l ++ [c] := ⟨cs.dropLast, cs.getLast ne, (List.dropLast_concat_getLast ne).symm⟩
    have hc := hd c (by simp)
    have ds : dVal (l ++ [c]) = dVal l * 10 + (c - 48) := PySem.NumText.digitsVal_snoc l c
    by_cases hl : l = []
    · subst hl
      rw [ds, show dVal [] = 0 from rfl, TL.numL_lt (by omega)]
      simp
      omega
    · have h48 : l.headD 0 ≠ 48 := by
        intro q
        cases l with
        | nil => exact hl rfl
        | cons a r =>
          have := hz q
          simp at this
      have ih := canon k l (by simpa using h) (fun x hx => hd x (by simp [hx])) hl (fun q => absurd q h48)
      have pos : dVal l ≠ 0 := by
        intro q
        rw [q, TL.numL_lt (by decide)] at ih
        rw [← ih] at h48
        exact h48 rfl
      rw [ds, TL.numL_step (by omega)]
      rw [show (dVal l * 10 + (c - 48)) / 10 = dVal l by omega, ih, show 48 + (dVal l * 10 + (c - 48)) % 10 = c by omega]
theorem sh_of_num {z : Str} {n : Int} (h : numOf z = .int n) : shI n = z ∧ 0 ≤ n ∧ n ≤ 1000000 := by
  unfold numOf at h
  split at h
  · rename_i q
    cases h
    obtain ⟨hf, hv⟩ := q
    unfold figs at hf
    simp only [Bool.and_eq_true, decide_eq_true_eq, Bool.not_eq_true'] at hf
    obtain ⟨⟨⟨h1, h7⟩, ha⟩, hz⟩ := hf
    have ne : z.cps.toList ≠ [] := by
      intro e
      have := head_at h1
      rw [e] at this
      cases this
    refine ⟨str_ext ?_, by omega, by omega⟩
    rw [sh_tl (by omega)]
    refine canon _ _ rfl (all_figs ha) ne (fun q => ?_)
    rw [q] at hz
    have : PyData.eqv (.str (⟨#[48]⟩ : Str)) (.str "0") = true := by decide +kernel
    rw [this, Bool.true_and] at hz
    simp [PyData.eqv] at hz
    rw [hz, f0]
  · cases h
/-! ### conditions as trees -/
theorem one_sp : sp_.length = 1 := by decide +kernel
inductive Cn where
  | pc (w n : Str) (y : PyData)
  | nt (c : Cn)
  | jn (w : Str) (cs : List Cn)
  | an (w n : Str) (c : Cn)
mutual
def cnD : Cn → PyData
  | .pc w n y => .tuple [.str w, .str n, y]
  | .nt c => .tuple [.str "not", cnD c]
  | .jn w cs => .tuple [.str w, .tuple (cnDs cs)]
  | .an w n c => .tuple [.str w, .str n, cnD c]
def cnDs : List Cn → List PyData
  | [] => []
  | c :: r => cnD c :: cnDs r
end
theorem cnDs_map : ∀ cs : List Cn, cnDs cs = cs.map cnD
  | [] => rfl
  | c :: r => by rw [cnDs, cnDs_map r]; rfl
mutual
/-- how many pieces -/
def pcN : Cn → Nat
  | .pc _ _ _ => 1
  | .nt c => pcN c
  | .jn _ cs => pcNs cs
  | .an _ _ c => pcN c
def pcNs : List Cn → Nat
  | [] => 0
  | c :: r => pcN c + pcNs r
end
theorem pcNs_sum : ∀ cs : List Cn, pcNs cs = (cs.map pcN).sum
  | [] => rfl
  | c :: r => by rw [pcNs, pcNs_sum r]; rfl
def strY : PyData → Str
  | .str z => z
  | .int n => shI n
  | _ => ""
abbrev tOp : Str := "("
abbrev tCl : Str := ")"
abbrev tNot : Str := "not"
mutual
/-- the words of a condition -/
def cnW : Cn → List Str
  | .pc w n y => [n, w, strY y]
  | .nt c => tNot :: cnW c
  | .jn w cs => tOp :: ((cnWs w cs).drop 1 ++ [tCl])
  | .an w n c => w :: n :: cnW c
def cnWs (w : Str) : List Cn → List Str
  | [] => []
  | c :: r => w :: (cnW c ++ cnWs w r)
end
theorem cnW_jn (w : Str) (c : Cn) (r : List Cn) : cnW (.jn w (c :: r)) = tOp :: ((cnW c ++ cnWs w r) ++ [tCl]) := by rw [cnW, cnWs]; rfl
theorem cnWs_nil (w : Str) : cnWs w [] = [] := by rw [cnWs]
theorem cnWs_cons (w : Str) (c : Cn) (r : List Cn) : cnWs w (c :: r) = w :: (cnW c ++ cnWs w r) := by rw [cnWs]
theorem cnWs_app (w : Str) : ∀ a b : List Cn, cnWs w (a ++ b) = cnWs w a ++ cnWs w b
  | [], b => by rw [cnWs_nil]; rfl
  | c :: a, b => by rw [List.cons_append, cnWs_cons, cnWs_app w a b, cnWs_cons]; simp
theorem cnW_ne : ∀ c : Cn, cnW c ≠ []
  | .pc _ _ _ => by simp [cnW]
  | .nt _ => by simp [cnW]
  | .jn _ _ => by simp [cnW]
  | .an _ _ _ => by simp [cnW]
/-- so deep at most, within a round or not -/
inductive CnV : Nat → Bool → Cn → Prop
  | pc {d : Nat} {wi : Bool} {w n : Str} {y : PyData} : isPiece w [.str n, y] = true → CnV (d + 1) wi (.pc w n y)
  | nt {d : Nat} {wi : Bool} {c : Cn} : CnV d wi c → CnV (d + 1) wi (.nt c)
  | jn {d : Nat} {wi : Bool} {w : Str} {cs : List Cn} : (w = "and" ∨ w = "or") → 2 ≤ cs.length → cs.length ≤ 6 → (∀ c ∈ cs, CnV d wi c) → CnV (d + 1) wi (.jn w cs)
  | an {d : Nat} {w n : Str} {c : Cn} : (w = "any" ∨ w = "every") → isNameS n = true → CnV d true c → CnV (d + 1) false (.an w n c)
theorem cnv_pos {d : Nat} {wi : Bool} {c : Cn} (h : CnV d wi c) : ∃ m, d = m + 1 := by cases h <;> exact ⟨_, rfl⟩
theorem piece_cases {w n : Str} {y : PyData} (h : isPiece w [.str n, y] = true) : isNameS n = true ∧ ((∃ z, (w = "is" ∨ w = "has") ∧ y = .str z ∧ isNameS z = true) ∨ (∃ m : Int, (w = "from" ∨ w = "to") ∧ y = .int m ∧ 0 ≤ m ∧ m ≤ 1000000)) := by
  rw [piece2] at h
  simp only [Bool.and_eq_true] at h
  obtain ⟨⟨hk, hn⟩, hy⟩ := h
  refine ⟨hn, ?_⟩
  cases hi : inD (.str w) ihD with
  | true =>
    rw [hi, if_pos rfl] at hy
    cases y with
    | str z => exact .inl ⟨z, ih_is hi, rfl, hy⟩
    | _ => exact Bool.noConfusion (show false = true from hy)
  | false =>
    rw [hi, if_neg Bool.false_ne_true] at hy
    have hw : w = "from" ∨ w = "to" := by
      have hm : w ∈ ksP := by simpa using hk
      simp only [ksP, List.mem_cons, List.not_mem_nil, or_false] at hm
      rcases hm with rfl | rfl | rfl | rfl
      · exact absurd hi (by decide +kernel)
      · exact absurd hi (by decide +kernel)
      · exact .inl rfl
      · exact .inr rfl
    cases y with
    | int m =>
      simp [isWithin] at hy
      exact .inr ⟨m, hw, rfl, hy.1, hy.2⟩
    | _ => exact Bool.noConfusion (show false = true from hy)
theorem parts_cn {d : Nat} {wi : Bool} (ih : ∀ x m, pcs d wi x = some m → ∃ c, x = cnD c ∧ CnV d wi c ∧ pcN c = m) : ∀ ps : List PyData, (ps.all fun p => (pcs d wi p).isSome) = true →
    ∃ cs : List Cn, ps = cs.map cnD ∧ (∀ c ∈ cs, CnV d wi c) ∧ (ps.map fun p => (pcs d wi p).getD 0).sum = (cs.map pcN).sum
  | [], _ => ⟨[], rfl, by simp, rfl⟩
  | p :: ps, h => by
    simp only [List.all_cons, Bool.and_eq_true] at h
    obtain ⟨cs, e, hc, es⟩ := parts_cn ih ps h.2
    obtain ⟨m, hm⟩ := Option.isSome_iff_exists.mp h.1
    obtain ⟨c, rfl, hcv, ec⟩ := ih p m hm
    refine ⟨c :: cs, by rw [e]; rfl, fun x hx => ?_, by simp only [List.map_cons, List.sum_cons, hm, es, ← ec]; rfl⟩
    rcases List.mem_cons.mp hx with rfl | hx
    · exact hcv
    · exact hc x hx
/-- what has pieces, is a tree -/
theorem pcs_cn : ∀ (d : Nat) (wi : Bool) (x : PyData) (m : Nat), pcs d wi x = some m → ∃ c, x = cnD c ∧ CnV d wi c ∧ pcN c = m
  | 0, _, _, _, h => by cases h
  | d + 1, wi, x, m, h => by
    simp only [pcs] at h
    split at h
    · rename_i t r
      unfold pcsStep at h
      split at h
      · rename_i hp
        match r, hp with
        | [], hp => exact Bool.noConfusion (show false = true from hp)
        | [_], hp => exact Bool.noConfusion (show false = true from hp)
        | _ :: _ :: _ :: _, hp => exact Bool.noConfusion (show false = true from hp)
        | [n, y], hp =>
          cases n with
          | str n =>
            cases h
            exact ⟨.pc t n y, by rw [cnD], .pc hp, by rw [pcN]⟩
          | _ => rw [piece2] at hp; simp [isName] at hp
      · match r, h with
        | [], h2 => cases h2
        | _ :: _ :: _ :: _, h2 => cases h2
        | [y], h2 =>
          simp only [pcsRest] at h2
          split at h2
          · rename_i hn
            have hn : t = "not" := by simpa [PyData.eqv] using hn
            subst hn
            obtain ⟨c, rfl, hc, e⟩ := pcs_cn d wi y m h2
            exact ⟨.nt c, by rw [cnD], .nt hc, by rw [pcN]; exact e⟩
          · split at h2
            · rename_i hj
              have hw : t = "and" ∨ t = "or" := by simpa using t_in (zs := ["and", "or"]) hj
              cases y with
              | tuple ps =>
                simp only [joinP, sumP] at h2
                split at h2
                · rename_i hl
                  simp only [Bool.and_eq_true, decide_eq_true_eq] at hl
                  split at h2
                  · rename_i ha
                    obtain ⟨cs, e, hc, es⟩ := parts_cn (pcs_cn d wi) ps ha
                    subst e
                    rw [List.length_map] at hl
                    refine ⟨.jn t cs, by rw [cnD, cnDs_map], .jn hw hl.1 hl.2 hc, ?_⟩
                    rw [pcN, pcNs_sum, ← es]
                    exact Option.some.inj h2
                  · cases h2
                · cases h2
              | _ => cases h2
            · cases h2
        | [n, y], h2 =>
          simp only [pcsRest] at h2
          split at h2
          · rename_i ha
            simp only [Bool.and_eq_true, Bool.not_eq_true'] at ha
            obtain ⟨⟨ht, hn⟩, hwi⟩ := ha
            subst hwi
            have hw : t = "any" ∨ t = "every" := by simpa using t_in (zs := ["any", "every"]) ht
            cases n with
            | str n =>
              obtain ⟨c, rfl, hc, e⟩ := pcs_cn d true y m h2
              exact ⟨.an t n c, by rw [cnD], .an hw hn hc, by rw [pcN]; exact e⟩
            | _ => exact Bool.noConfusion (show false = true from hn)
          · cases h2
    · cases h
theorem cond_cn {x : PyData} (h : isCond x = true) : ∃ c, x = cnD c ∧ CnV 6 false c ∧ pcN c ≤ 30 := by
  unfold isCond condO at h
  cases e : pcs 6 false x with
  | none => rw [e] at h; cases h
  | some m =>
    rw [e] at h
    obtain ⟨c, hx, hc, hm⟩ := pcs_cn 6 false x m e
    have : ((m : Int) ≤ 30) := by simpa using h
    exact ⟨c, hx, hc, by omega⟩
/-- sizes -/
theorem strY_b {w n : Str} {y : PyData} (h : isPiece w [.str n, y] = true) : (strY y).length ≤ 21 ∧ w.length ≤ 4 ∧ n.length ≤ 8 ∧ (∀ z ∈ [n, w, strY y], PyData.strOk z = true ∧ 32 ∉ TL.tl z) := by
  obtain ⟨hn, h⟩ := piece_cases h
  have nl := name_len8 hn
  rcases h with ⟨z, hw, rfl, hz⟩ | ⟨m, hw, rfl, m0, m1⟩
  · refine ⟨Nat.le_trans (name_len8 hz) (by decide), by rcases hw with rfl | rfl <;> decide +kernel, nl, fun x hx => ?_⟩
    simp only [List.mem_cons, List.not_mem_nil, or_false] at hx
    rcases hx with rfl | rfl | rfl
    · exact ⟨name_sok hn, sp_free_name hn⟩
    · rcases hw with rfl | rfl <;> exact ⟨by decide +kernel, by decide +kernel⟩
    · exact ⟨name_sok hz, sp_free_name hz⟩
  · refine ⟨shI_len m0 m1, by rcases hw with rfl | rfl <;> decide +kernel, nl, fun x hx => ?_⟩
    simp only [List.mem_cons, List.not_mem_nil, or_false] at hx
    rcases hx with rfl | rfl | rfl
    · exact ⟨name_sok hn, sp_free_name hn⟩
    · rcases hw with rfl | rfl <;> exact ⟨by decide +kernel, by decide +kernel⟩
    · exact ⟨ofString_ok _, sp_free_int m⟩
theorem cnWs_b {w : Str} {B : Nat} : ∀ {cs : List Cn}, (∀ c ∈ cs, tot (cnW c) ≤ pcN c * B ∧ 1 ≤ pcN c) → tot (cnWs w cs) ≤ cs.length * (w.length + 1) + pcNs cs * B ∧ cs.length ≤ pcNs cs
  | [], _ => by rw [cnWs_nil]; exact ⟨Nat.zero_le _, Nat.zero_le _⟩
  | c :: r, h => by
    obtain ⟨h1, h2⟩ := cnWs_b (w := w) (B := B) (cs := r) fun x hx => h x (List.mem_cons_of_mem _ hx)
    obtain ⟨k1, k2⟩ := h c List.mem_cons_self
    have e : pcNs (c :: r) = pcN c + pcNs r := by rw [pcNs]
    have e2 : tot (cnWs w (c :: r)) = w.length + 1 + (tot (cnW c) + tot (cnWs w r)) := by rw [cnWs_cons, tot, tot_app]
    rw [e, e2, List.length_cons, Nat.add_mul, Nat.add_mul, Nat.one_mul]
    omega
theorem cnWs_mem {w z : Str} : ∀ {cs : List Cn}, z ∈ cnWs w cs → z = w ∨ ∃ c ∈ cs, z ∈ cnW c
  | [], h => by rw [cnWs_nil] at h; cases h
  | c :: r, h => by
    rw [cnWs_cons] at h
    rcases List.mem_cons.mp h with e | h
    · exact .inl e
    rcases List.mem_append.mp h with h | h
    · exact .inr ⟨c, List.mem_cons_self, h⟩
    · rcases cnWs_mem h with e | ⟨c2, hc, hz⟩
      · exact .inl e
      · exact .inr ⟨c2, List.mem_cons_of_mem _ hc, hz⟩
theorem cnv_b {d : Nat} {wi : Bool} {c : Cn} (h : CnV d wi c) : tot (cnW c) ≤ pcN c * (40 + 15 * d) ∧ 1 ≤ pcN c ∧ ∀ z ∈ cnW c, PyData.strOk z = true ∧ 32 ∉ TL.tl z := by
  induction h with
  | @pc d wi w n y hp =>
    obtain ⟨l1, l2, l3, l4⟩ := strY_b hp
    rw [pcN, show cnW (.pc w n y) = [n, w, strY y] by rw [cnW]]
    refine ⟨?_, Nat.le_refl _, l4⟩
    simp only [tot]
    omega
  | @nt d wi c hc ih =>
    obtain ⟨h1, h2, h3⟩ := ih
    rw [show pcN (.nt c) = pcN c by rw [pcN], show cnW (.nt c) = tNot :: cnW c by rw [cnW]]
    have l3 : tNot.length = 3 := by decide +kernel
    refine ⟨?_, h2, fun z hz => ?_⟩
    · simp only [tot, l3]
      rw [show pcN c * (40 + 15 * (d + 1)) = pcN c * (40 + 15 * d) + 15 * pcN c by rw [show 40 + 15 * (d + 1) = (40 + 15 * d) + 15 by omega, Nat.mul_add]; omega]
      omega
    · rcases List.mem_cons.mp hz with rfl | hz
      · exact ⟨by decide +kernel, by decide +kernel⟩
      · exact h3 z hz
  | @an d w n c hw hn hc ih =>
    obtain ⟨h1, h2, h3⟩ := ih
    rw [show pcN (.an w n c) = pcN c by rw [pcN], show cnW (.an w n c) = w :: n :: cnW c by rw [cnW]]
    have l3 : w.length ≤ 5 := by rcases hw with rfl | rfl <;> decide +kernel
    have nl := name_len8 hn
    refine ⟨?_, h2, fun z hz => ?_⟩
    · simp only [tot]
      rw [show pcN c * (40 + 15 * (d + 1)) = pcN c * (40 + 15 * d) + 15 * pcN c by rw [show 40 + 15 * (d + 1) = (40 + 15 * d) + 15 by omega, Nat.mul_add]; omega]
      omega
    · rcases List.mem_cons.mp hz with rfl | hz
      · rcases hw with rfl | rfl <;> exact ⟨by decide +kernel, by decide +kernel⟩
      rcases List.mem_cons.mp hz with rfl | hz
      · exact ⟨name_sok hn, sp_free_name hn⟩
      · exact h3 z hz
  | @jn d wi w cs hw h2 h6 hc ih =>
    have l3 : w.length ≤ 3 := by rcases hw with rfl | rfl <;> decide +kernel
    obtain ⟨s1, s2⟩ := cnWs_b (w := w) (B := 40 + 15 * d) fun c m => ⟨(ih c m).1, (ih c m).2.1⟩
    have td := tot_drop (cnWs w cs) 1
    rw [show pcN (.jn w cs) = pcNs cs by rw [pcN], show cnW (.jn w cs) = tOp :: ((cnWs w cs).drop 1 ++ [tCl]) by rw [cnW]]
    have o1 : tOp.length = 1 := by decide +kernel
    have o2 : tCl.length = 1 := by decide +kernel
    refine ⟨?_, by omega, fun z hz => ?_⟩
    · simp only [tot, tot_app, o1, o2]
      rw [show pcNs cs * (40 + 15 * (d + 1)) = pcNs cs * (40 + 15 * d) + 15 * pcNs cs by rw [show 40 + 15 * (d + 1) = (40 + 15 * d) + 15 by omega, Nat.mul_add]; omega]
      have : cs.length * (w.length + 1) ≤ cs.length * 4 := Nat.mul_le_mul_left _ (by omega)
      omega
    · rcases List.mem_cons.mp hz with rfl | hz
      · exact ⟨by decide +kernel, by decide +kernel⟩
      rcases List.mem_append.mp hz with hz | hz
      · rcases cnWs_mem (List.mem_of_mem_drop hz) with rfl | ⟨c, hm, hz⟩
        · rcases hw with rfl | rfl <;> exact ⟨by decide +kernel, by decide +kernel⟩
        · exact (ih c hm).2.2 z hz
      · rw [List.mem_singleton.mp hz]
        exact ⟨by decide +kernel, by decide +kernel⟩
def cnT (c : Cn) : Str := Txt.join sp_ (cnW c)
theorem cnT_split {d : Nat} {wi : Bool} {c : Cn} (h : CnV d wi c) : Txt.split (cnT c) sp_ = cnW c := split_words (cnW_ne c) fun p hp => ((cnv_b h).2.2 p hp).2
theorem cnT_ok {d : Nat} {wi : Bool} {c : Cn} (h : CnV d wi c) : PyData.strOk (cnT c) = true := join_ok (by decide +kernel) fun z hz => ((cnv_b h).2.2 z hz).1
theorem cnT_len {d : Nat} {wi : Bool} {c : Cn} (h : CnV d wi c) : (cnT c).length ≤ pcN c * (40 + 15 * d) := Nat.le_trans (join_tot_le one_sp _) (cnv_b h).1
end Ms
set_option Elab.async false
set_option linter.all false
set_option maxRecDepth 100000
namespace Ms
open PySem PySem.Spec PyProof.Rows L2 Dl
theorem slot_in : ∀ {σ : SD} {j : Nat} {w : W} {Q : W → Prop}, σ[j]? = some (some w) → Q w → slotQ σ j Q
  | [], _, _, _, e, _ => by simp at e
  | o :: _, 0, _, _, e, h => by simp at e; subst e; exact h
  | _ :: t, n + 1, _, _, e, h => slot_in (σ := t) (j := n) (by simpa using e) h
theorem keep_put {M M' : MH} {p : Addr} {o : O} (h : Keep M M') (n : M p = none) : Keep M (mset M' p o) := fun b u e => by
  rw [mset_ne (by rintro rfl; rw [n] at e; cases e)]
  exact h b u e
theorem asn_var {j m : Nat} {w : W} {D : EndsD} {σ : SD} {M : MH} (e : σ[j]? = some (some w)) (h : D.nx (σ.set m (some w)) M) : tAsn (Dl.tVar j) (gNam m) D σ M := slot_in e h
theorem ifn_ref {j : Nat} {p : Addr} {A B : TSd} {D : EndsD} {σ : SD} {M : MH} (e : σ[j]? = some (some (.ref p))) (h : B D σ M) : tIfD (tTst (tBin rIs (Dl.tVar j) (tK .none))) A B D σ M := slot_in e (by
  show (fun b M1 => if b = true then A D σ M1 else B D σ M1) false M
  simpa using h)
theorem ifn_non {j : Nat} {A B : TSd} {D : EndsD} {σ : SD} {M : MH} (e : σ[j]? = some (some (.d .none))) (h : A D σ M) : tIfD (tTst (tBin rIs (Dl.tVar j) (tK .none))) A B D σ M := slot_in e (by
  show (fun b M1 => if b = true then A D σ M1 else B D σ M1) true M
  simpa using h)
theorem ifn_d {j : Nat} {x : PyData} {A B : TSd} {D : EndsD} {σ : SD} {M : MH} (e : σ[j]? = some (some (.d x))) (h1 : x = .none → A D σ M) (h2 : x ≠ .none → B D σ M) : tIfD (tTst (tBin rIs (Dl.tVar j) (tK .none))) A B D σ M := slot_in e (by
  cases x with
  | none => show (fun b M1 => if b = true then A D σ M1 else B D σ M1) true M; simpa using h1 rfl
  | _ => show (fun b M1 => if b = true then A D σ M1 else B D σ M1) false M; simpa using h2 (by simp))
theorem t_isn {j : Nat} {x : PyData} {σ : SD} {M : MH} {R : Bool → MH → Prop} (e : σ[j]? = some (some (.d x))) (z : R (isNone x) M) : tTst (tBin rIs (Dl.tVar j) (tK .none)) σ M R := slot_in e (by cases x <;> exact z)
theorem t_isnot {j : Nat} {x : PyData} {σ : SD} {M : MH} {R : Bool → MH → Prop} (e : σ[j]? = some (some (.d x))) (z : R (!isNone x) M) : tTst (tBin rIsNot (Dl.tVar j) (tK .none)) σ M R := slot_in e (by cases x <;> exact z)
theorem or_val {t u : TTd} {σ : SD} {M : MH} {Q : Bool → MH → Prop} (b1 b2 : Bool) (h1 : ∀ R : Bool → MH → Prop, R b1 M → t σ M R) (h2 : b1 = false → ∀ R : Bool → MH → Prop, R b2 M → u σ M R) (q : Q (b1 || b2) M) : Dl.tOrT t u σ M Q := by
  refine h1 _ ?_
  cases b1 with
  | true => exact q
  | false => exact h2 rfl _ q
theorem and_val {t u : TTd} {σ : SD} {M : MH} {Q : Bool → MH → Prop} (b1 b2 : Bool) (h1 : ∀ R : Bool → MH → Prop, R b1 M → t σ M R) (h2 : b1 = true → ∀ R : Bool → MH → Prop, R b2 M → u σ M R) (q : Q (b1 && b2) M) : Dl.tAndT t u σ M Q := by
  refine h1 _ ?_
  cases b1 with
  | false => exact q
  | true => exact h2 rfl _ q
/-! ### what holds: answers taken, folk -/
abbrev TK := List (NestedKey × PyData)
def kk (z : Str) (p : Int) : NestedKey := .tup [.text z, .num p]
def tkW (t : TK) : List (NestedKey × W) := t.map fun q => (q.1, .d q.2)
def tkAt : TK → NestedKey → Option PyData
  | [], _ => none
  | q :: r, k => if q.1 = k then some q.2 else tkAt r k
theorem nAt_tk (k : NestedKey) : ∀ t : TK, nAt (tkW t) k = (tkAt t k).map W.d
  | [] => rfl
  | q :: r => by
    show nAt ((q.1, W.d q.2) :: tkW r) k = _
    rw [nAt_cons, tkAt, nAt_tk k r]
    by_cases e : q.1 = k
    · rw [if_pos e, if_pos e]; rfl
    · rw [if_neg e, if_neg e]
theorem kk_data (z : Str) (p : Int) : (kk z p).data = .tuple [.str z, .int p] := by simp [kk, NestedKey.data, NestedKey.datas]
theorem kk_depth (z : Str) (p : Int) : (kk z p).depth ≤ 8 := by simp [kk, NestedKey.depth, NestedKey.depthAll]
theorem tkAt_mem {k : NestedKey} {d : PyData} : ∀ {t : TK}, tkAt t k = some d → ∃ q ∈ t, q.2 = d
  | q :: r, h => by
    rw [tkAt] at h
    by_cases e : q.1 = k
    · rw [if_pos e] at h
      cases h
      exact ⟨q, List.mem_cons_self, rfl⟩
    · rw [if_neg e] at h
      obtain ⟨q', h1, h2⟩ := tkAt_mem h
      exact ⟨q', List.mem_cons_of_mem _ h1, h2⟩
/-- an answer -/
inductive AnsV : PyData → Prop
  | str {z : Str} : isNameS z = true → AnsV (.str z)
  | tup {zs : List Str} : zs.length ≤ 6 → (∀ z ∈ zs, isNameS z = true) → AnsV (.tuple (zs.map PyData.str))
  | int {n : Int} : 0 ≤ n → n ≤ 1000000 → AnsV (.int n)
def AnsT (t : TK) : Prop := ∀ q ∈ t, AnsV q.2
/-- the answer taken, else none -/
def takD (t : TK) (z : Str) (p : Int) : PyData := match tkAt t (kk z p) with
  | some d => d
  | none => (tkAt t (kk z 0)).getD .none
theorem takD_ans {t : TK} (h : AnsT t) (z : Str) (p : Int) : takD t z p = .none ∨ AnsV (takD t z p) := by
  unfold takD
  cases e : tkAt t (kk z p) with
  | some d =>
    obtain ⟨q, h1, rfl⟩ := tkAt_mem e
    exact .inr (h q h1)
  | none =>
    dsimp only
    cases e2 : tkAt t (kk z 0) with
    | some d =>
      obtain ⟨q, h1, rfl⟩ := tkAt_mem e2
      exact .inr (h q h1)
    | none => exact .inl rfl
/-- whether a piece holds of an answer -/
def pcH (w : Str) : PyData → PyData → Bool
  | .str a, .str b => w == ("is" : Str) && PyData.eqv (.str a) (.str b)
  | .tuple xs, .str b => w == ("has" : Str) && inD (.str b) xs
  | .int n, .int m => (w == ("from" : Str) && decide (n ≥ m)) || (w == ("to" : Str) && decide (n ≤ m))
  | _, _ => false
abbrev FK := List (Str × Int)
def fkD (f : FK) : List (Str × PyData) := f.map fun q => (q.1, .int q.2)
theorem fkD_at (f : FK) (z : Str) : (fkD f).lookup z = (f.lookup z).map PyData.int := lookup_map PyData.int f z
def fkN (f : FK) (z : Str) : Int := (f.lookup z).getD 0
def FkOk (f : FK) : Prop := ∀ q ∈ f, 0 ≤ q.2 ∧ q.2 ≤ 4
theorem lookup_mem {α : Type} {z : Str} {x : α} : ∀ {l : List (Str × α)}, l.lookup z = some x → ∃ q ∈ l, q.2 = x
  | q :: r, h => by
    obtain ⟨k, v⟩ := q
    rw [List.lookup_cons] at h
    split at h
    · cases h; exact ⟨(k, x), List.mem_cons_self, rfl⟩
    · obtain ⟨q', h1, h2⟩ := lookup_mem h
      exact ⟨q', List.mem_cons_of_mem _ h1, h2⟩
theorem fkN_b {f : FK} (h : FkOk f) (z : Str) : 0 ≤ fkN f z ∧ fkN f z ≤ 4 := by
  unfold fkN
  cases e : f.lookup z with
  | none => exact ⟨Int.le_refl _, by decide⟩
  | some n =>
    obtain ⟨q, h1, rfl⟩ := lookup_mem e
    exact h q h1
mutual
/-- whether a condition holds -/
def Hc (t : TK) (f : FK) : Int → Cn → Bool
  | p, .pc w n y => pcH w (takD t n p) y
  | p, .nt c => !Hc t f p c
  | p, .jn w cs => if w == ("and" : Str) then (Hcs t f p cs).all (fun b => b) else (Hcs t f p cs).any (fun b => b)
  | _, .an w n c => if w == ("any" : Str) then ((List.range (fkN f n).toNat).map fun k : Nat => Hc t f (1 + (k : Int)) c).any (fun b => b) else ((List.range (fkN f n).toNat).map fun k : Nat => Hc t f (1 + (k : Int)) c).all (fun b => b)
def Hcs (t : TK) (f : FK) : Int → List Cn → List Bool
  | _, [] => []
  | p, c :: r => Hc t f p c :: Hcs t f p r
end
theorem Hcs_map (t : TK) (f : FK) (p : Int) : ∀ cs : List Cn, Hcs t f p cs = cs.map (Hc t f p)
  | [] => by rw [Hcs]; rfl
  | c :: r => by rw [Hcs, Hcs_map t f p r]; rfl
/-! ### the program's looks at a piece -/
def spH2 (R : PyData → PyData → Prop) (f : PyData → PyData → Bool) : SpD := fun ws M Q _ => ∃ v y, ws = [.d v, .d y] ∧ R v y ∧ Q (.d (.bool (f v y))) M
theorem spH2_len {R f} : ∀ ws M Q E, spH2 R f ws M Q E → ws.length = 2 := by rintro _ _ _ _ ⟨v, y, rfl, _⟩; rfl
def RStr (v y : PyData) : Prop := AnsV v ∧ ∃ z, y = .str z ∧ isNameS z = true
def RInt (v y : PyData) : Prop := AnsV v ∧ ∃ m : Int, y = .int m ∧ 0 ≤ m ∧ m ≤ 1000000
theorem d_holds_is {g : Gc} (T : Txt g) : Df g 1 "holds_is" ["value", "sought"] (spH2 RStr (pcH "is")) := by
  refine df_of (k := 0) (i := i_holds_is) T.p_holds_is T.sy sc_holds_is ok_holds_is (fun _ _ _ _ _ _ us hl => match us, hl with | [_, _], _ => rfl) ?_ (fun Y ws M Q E F hE h => ?_)
  · exact spH2_len
  · obtain ⟨v, y, rfl, ⟨hv, z, rfl, hz⟩, h⟩ := h
    refine ⟨_, (ss_one (s_ret (q_and (q_isi F 0 1 isk_str T.n_isinstance T.n_str (by decide +kernel) (q_var F 0)) (q_one (q_cmp (o_eq F) (q_var F 0) (q_var F 1)))))), ?_⟩
    cases hv with
    | @str a ha => exact ⟨rfl, qcast h (by simp [pcH])⟩
    | tup hl hn => exact qcast h rfl
    | int h0 h1 => exact qcast h rfl
theorem d_holds_has {g : Gc} (T : Txt g) : Df g 1 "holds_has" ["value", "sought"] (spH2 RStr (pcH "has")) := by
  refine df_of (k := 0) (i := i_holds_has) T.p_holds_has T.sy sc_holds_has ok_holds_has (fun _ _ _ _ _ _ us hl => match us, hl with | [_, _], _ => rfl) ?_ (fun Y ws M Q E F hE h => ?_)
  · exact spH2_len
  · obtain ⟨v, y, rfl, ⟨hv, z, rfl, hz⟩, h⟩ := h
    refine ⟨_, (ss_one (s_ret (q_and (q_isi F 0 1 isk_tuple T.n_isinstance T.n_tuple (by decide +kernel) (q_var F 0)) (q_one (q_cmp (o_in F) (q_var F 1) (q_var F 0)))))), ?_⟩
    cases hv with
    | @str a ha => exact qcast h rfl
    | @tup zs hl hn => exact ⟨inA_strs (fun x hx => name_sok (hn x hx)) (name_sok hz), qcast h (by simp [pcH])⟩
    | int h0 h1 => exact qcast h rfl
theorem d_holds_from {g : Gc} (T : Txt g) : Df g 2 "holds_from" ["value", "least"] (spH2 RInt (pcH "from")) := by
  refine df_of (k := 1) (i := i_holds_from) T.p_holds_from T.sy sc_holds_from ok_holds_from (fun _ _ _ _ _ _ us hl => match us, hl with | [_, _], _ => rfl) ?_ (fun Y ws M Q E F hE h => ?_)
  · exact spH2_len
  · obtain ⟨v, y, rfl, ⟨hv, m, rfl, h0, h1⟩, h⟩ := h
    refine ⟨_, (ss_one (s_ret (q_and (q_call F 0 (d_is_whole T) (a_cons (q_var F 0) a_nil)) (q_one (q_cmp o_ge (q_var F 0) (q_var F 1)))))), ?_⟩
    cases hv with
    | @str a ha => exact ⟨_, rfl, trivial, bqc false rfl (iteF (qcast h rfl))⟩
    | tup hl hn => exact ⟨_, rfl, trivial, bqc false rfl (iteF (qcast h rfl))⟩
    | @int n h2 h3 =>
      refine ⟨_, rfl, trivial, bqc true rfl (iteT (qcast h ?_))⟩
      show ((("from" : Str) == ("from" : Str)) && decide (n ≥ m) || (("from" : Str) == ("to" : Str)) && decide (n ≤ m)) = _
      rw [show (("from" : Str) == ("from" : Str)) = true by decide +kernel, show (("from" : Str) == ("to" : Str)) = false by decide +kernel]
      simp
theorem d_holds_to {g : Gc} (T : Txt g) : Df g 2 "holds_to" ["value", "most"] (spH2 RInt (pcH "to")) := by
  refine df_of (k := 1) (i := i_holds_to) T.p_holds_to T.sy sc_holds_to ok_holds_to (fun _ _ _ _ _ _ us hl => match us, hl with | [_, _], _ => rfl) ?_ (fun Y ws M Q E F hE h => ?_)
  · exact spH2_len
  · obtain ⟨v, y, rfl, ⟨hv, m, rfl, h0, h1⟩, h⟩ := h
    refine ⟨_, (ss_one (s_ret (q_and (q_call F 0 (d_is_whole T) (a_cons (q_var F 0) a_nil)) (q_one (q_cmp o_le (q_var F 0) (q_var F 1)))))), ?_⟩
    cases hv with
    | @str a ha => exact ⟨_, rfl, trivial, bqc false rfl (iteF (qcast h rfl))⟩
    | tup hl hn => exact ⟨_, rfl, trivial, bqc false rfl (iteF (qcast h rfl))⟩
    | @int n h2 h3 =>
      refine ⟨_, rfl, trivial, bqc true rfl (iteT (qcast h ?_))⟩
      show ((("to" : Str) == ("from" : Str)) && decide (n ≥ m) || (("to" : Str) == ("to" : Str)) && decide (n ≤ m)) = _
      rw [show (("to" : Str) == ("from" : Str)) = false by decide +kernel, show (("to" : Str) == ("to" : Str)) = true by decide +kernel]
      simp
theorem piece_w {w n : Str} {y : PyData} (h : isPiece w [.str n, y] = true) : (w = "is" ∧ ∃ z, y = .str z ∧ isNameS z = true) ∨ (w = "has" ∧ ∃ z, y = .str z ∧ isNameS z = true) ∨ (w = "from" ∧ ∃ m : Int, y = .int m ∧ 0 ≤ m ∧ m ≤ 1000000) ∨ (w = "to" ∧ ∃ m : Int, y = .int m ∧ 0 ≤ m ∧ m ≤ 1000000) := by
  rcases (piece_cases h).2 with ⟨z, hw, hy, hz⟩ | ⟨m, hw, hy, m0, m1⟩
  · rcases hw with hw | hw
    · exact .inl ⟨hw, z, hy, hz⟩
    · exact .inr (.inl ⟨hw, z, hy, hz⟩)
  · rcases hw with hw | hw
    · exact .inr (.inr (.inl ⟨hw, m, hy, m0, m1⟩))
    · exact .inr (.inr (.inr ⟨hw, m, hy, m0, m1⟩))
def spHP : SpD := fun ws M Q _ => ∃ w n y v, ws = [.d (.tuple [.str w, .str n, y]), .d v] ∧ isPiece w [.str n, y] = true ∧ (v = .none ∨ AnsV v) ∧ Q (.d (.bool (pcH w v y))) M
theorem spHP_len : ∀ ws M Q E, spHP ws M Q E → ws.length = 2 := by rintro _ _ _ _ ⟨w, n, y, v, rfl, _⟩; rfl
theorem pcH_none {w : Str} {y : PyData} : pcH w .none y = false := by unfold pcH; rfl
theorem isNone_ans {v : PyData} (h : AnsV v) : isNone v = false := by cases h <;> rfl
theorem and_isnot {j : Nat} {x : PyData} {σ : SD} {M : MH} {Q : W → MH → Prop} {u : TEd} (e : σ[j]? = some (some (.d x))) (n : isNone x = false) (z : u σ M Q) : tAnd2 (tBin rIsNot (Dl.tVar j) (tK .none)) u σ M Q := slot_in e (by cases x <;> first | exact z | cases n)
theorem d_holds_piece {g : Gc} (T : Txt g) : Df g 3 "holds_piece" ["piece", "value"] spHP := by
  refine df_of (k := 2) (i := i_holds_piece) T.p_holds_piece T.sy sc_holds_piece ok_holds_piece (fun _ _ _ _ _ _ us hl => match us, hl with | [_, _], _ => rfl) ?_ (fun Y ws M Q E F hE h => ?_)
  · exact spHP_len
  · obtain ⟨w, n, y, v, rfl, hp, hv, h⟩ := h
    refine ⟨_, (ss_cons (s_set (q_kfx F 0 T.w_PIECES.choose_spec (q_ix (q_var F 0) q_int)) (g_name F 2)) (ss_one (s_ret (q_and (q_cmp o_isNot (q_var F 1) q_none) (q_one (q_callV rfl F (fn_cons (d_holds_is T) (fn_cons (d_holds_has T) (fn_cons (d_holds_from T) (fn_cons (d_holds_to T) fn_nil)))) 2 (a_cons (q_var F 1) (a_cons (q_ix (q_var F 0) q_int) a_nil)))))))), ?_⟩
    rcases hv with rfl | hv
    · rw [pcH_none] at h
      rcases piece_w hp with ⟨rfl, _⟩ | ⟨rfl, _⟩ | ⟨rfl, _⟩ | ⟨rfl, _⟩
      · exact ⟨_, at0, _, _, rfl, rfl, h⟩
      · exact ⟨_, at0, _, _, rfl, rfl, h⟩
      · exact ⟨_, at0, _, _, rfl, rfl, h⟩
      · exact ⟨_, at0, _, _, rfl, rfl, h⟩
    · rcases piece_w hp with ⟨rfl, z, rfl, hz⟩ | ⟨rfl, z, rfl, hz⟩ | ⟨rfl, z, rfl, hz⟩ | ⟨rfl, z, rfl, hz⟩
      · refine ⟨_, at0, _, _, rfl, rfl, ?_⟩
        have hv2 := hv
        refine and_isnot (x := v) rfl (isNone_ans hv2) ?_
        exact ⟨_, _, (.head _), rfl, _, at2, _, _, rfl, ⟨hv2, z, rfl, hz⟩, h⟩
      · refine ⟨_, at0, _, _, rfl, rfl, ?_⟩
        have hv2 := hv
        refine and_isnot (x := v) rfl (isNone_ans hv2) ?_
        exact ⟨_, _, (.tail _ (.head _)), rfl, _, at2, _, _, rfl, ⟨hv2, z, rfl, hz⟩, h⟩
      · refine ⟨_, at0, _, _, rfl, rfl, ?_⟩
        have hv2 := hv
        refine and_isnot (x := v) rfl (isNone_ans hv2) ?_
        exact ⟨_, _, (.tail _ (.tail _ (.head _))), rfl, _, at2, _, _, rfl, ⟨hv2, z, rfl, hz⟩, h⟩
      · refine ⟨_, at0, _, _, rfl, rfl, ?_⟩
        have hv2 := hv
        refine and_isnot (x := v) rfl (isNone_ans hv2) ?_
        exact ⟨_, _, (.tail _ (.tail _ (.tail _ (.head _)))), rfl, _, at2, _, _, rfl, ⟨hv2, z, rfl, hz⟩, h⟩
end Ms
set_option Elab.async false
set_option linter.all false
set_option maxRecDepth 100000
namespace Ms
open PySem PySem.Spec PyProof.Rows L2 Dl
/-- a comprehension that gives the things of a list in turn -/
theorem lcX {ws : List W} {kc : MH → Prop} {M1 : MH} {σ : SD} {vs : List Nat} {jt : Nat} {te : TEd} {R0 : List PyData → MH → Prop} (ds : List PyData) (e : ds.length = ws.length) (hz : ws.length ≤ 16000000) (hkc : ∀ D acc, M1 D = none → kc (mset M1 D (.lst acc)))
    (he : ∀ (j : Nat) w d, ws[j]? = some w → ds[j]? = some d → tgQ (.one jt) w (wipeD σ vs) fun σ2 => ∀ M2, Keep M1 M2 → ∀ R : W → MH → Prop, R (.d d) M2 → te σ2 M2 R) (q : R0 ds M1) :
    ∀ D, M1 D = none → ∃ I : Nat → List W → MH → Prop, I 0 [] (mset M1 D (.lst [])) ∧ (∀ j acc M2, I j acc M2 → kc M2 ∧ M2 D = some (.lst acc)) ∧
      (∀ j w acc M2, ws[j]? = some w → I j acc M2 → tgQ (.one jt) w (wipeD σ vs) fun σ2 => tAll σ2 M2 fun b M4 => if b = true then te σ2 M4 fun x M5 => M5 D = some (.lst acc) ∧ acc.length < sizeLine ∧ I (j + 1) (acc ++ [x]) (mset M5 D (.lst (acc ++ [x]))) else I (j + 1) acc M4) ∧
      (∀ acc M2, I ws.length acc M2 → dataQ R0 acc (mdel M2 D)) := by
  intro D nD
  refine ⟨fun j acc M2 => M2 = mset M1 D (.lst acc) ∧ acc = (ds.take j).map W.d, ⟨rfl, rfl⟩, ?_, ?_, ?_⟩
  · rintro j acc M2 ⟨rfl, _⟩
    exact ⟨hkc D acc nD, mset_same⟩
  · rintro j w acc M2 hj ⟨rfl, hacc⟩
    have hlt : j < ws.length := (List.getElem?_eq_some_iff.mp hj).1
    have hd : ds[j]? = some (ds[j]'(by omega)) := List.getElem?_eq_getElem (by omega)
    have len : acc.length < sizeLine := by
      rw [hacc, List.length_map, List.length_take, sizeLine_eq]
      omega
    have z := he j w _ hj hd
    dsimp only [tgQ, tAll]
    refine iteT (z _ (keep_new nD) _ ⟨mset_same, len, mset_mset, ?_⟩)
    rw [getElem?_take_succ hd, List.map_append, ← hacc]
    rfl
  · rintro acc M2 ⟨rfl, hacc⟩
    rw [← e, List.take_length] at hacc
    rw [hacc, mdel_mset nD]
    unfold dataQ
    rw [allD_map]
    exact q
theorem getElem?_mapd {ds : List PyData} {j : Nat} {w : W} (h : (ds.map W.d)[j]? = some w) : ∃ d, w = .d d ∧ ds[j]? = some d := by
  rw [List.getElem?_map] at h
  cases e : ds[j]? with
  | none => rw [e] at h; cases h
  | some d => rw [e] at h; cases h; exact ⟨d, rfl, rfl⟩
def spNC (g : Gc) : SpD := fun ws M Q E => ∃ x, ws = [.d x] ∧ okT x ∧ (isCond x = true → Q (.d .none) M) ∧ (isCond x = false → E (ecl g "NoCondition") none M)
theorem spNC_len {g : Gc} : ∀ ws M Q E, spNC g ws M Q E → ws.length = 1 := by rintro _ _ _ _ ⟨x, rfl, _⟩; rfl
theorem d_need_condition {g : Gc} (T : Txt g) : Df g 19 "need_condition" ["thing"] (spNC g) := by
  refine df_of (k := 18) (i := i_need_condition) T.p_need_condition T.sy sc_need_condition ok_need_condition (fun _ _ _ _ _ _ us hl => match us, hl with | [_], _ => rfl) ?_ (fun Y ws M Q E F hE h => ?_)
  · exact spNC_len
  · obtain ⟨x, rfl, hx, h1, h2⟩ := h
    refine ⟨_, (ss_one (s_if (t_not (t_val (q_call F 0 (d_is_condition T) (a_cons (q_var F 0) a_nil)))) (ss_one (s_raise1 F 1 T.e_NoCondition)) ss_nil)), ?_⟩
    refine ⟨_, rfl, hx, ?_⟩
    dsimp only
    cases e : isCond x with
    | true => exact bqc true rfl (h1 e)
    | false =>
      refine bqc false rfl ?_
      show Y.wd _ _ _ _
      rw [hE]
      exact h2 e
theorem nHas_tk {t : TK} {k : NestedKey} : nHas (tkW t) k = (tkAt t k).isSome := by unfold nHas; rw [nAt_tk, Option.isSome_map]
def spTk (g : Gc) : SpD := fun ws M Q _ => ∃ a t z p, ws = [.ref a, .d (.str z), .d (.int p)] ∧ M a = some (.dN g.P g.w (tkW t)) ∧ Q (.d (takD t z p)) M
theorem spTk_len {g : Gc} : ∀ ws M Q E, spTk g ws M Q E → ws.length = 3 := by rintro _ _ _ _ ⟨a, t, z, p, rfl, _⟩; rfl
theorem d_taken_of {g : Gc} (T : Txt g) : Df g 1 "taken_of" ["taken", "name", "person"] (spTk g) := by
  refine df_of (k := 0) (i := i_taken_of) T.p_taken_of T.sy sc_taken_of ok_taken_of (fun _ _ _ _ _ _ us hl => match us, hl with | [_, _, _], _ => rfl) ?_ (fun Y ws M Q E F hE h => ?_)
  · exact spTk_len
  · obtain ⟨a, t, z, p, rfl, ha, h⟩ := h
    refine ⟨_, (ss_cons (s_if (t_cmp (o_nin F) (q_tup (a_cons (q_var F 1) (a_cons (q_var F 2) a_nil))) (q_var F 0)) (ss_one (s_ret (q_nget F (q_var F 0) (q_tup (a_cons (q_var F 1) (a_cons (q_var F 2) a_nil)))))) ss_nil) (ss_one (s_ret (q_nget2 F (q_var F 0) (q_tup (a_cons (q_var F 1) (a_cons q_int a_nil))) q_none)))), ?_⟩
    unfold takD at h
    refine ⟨sm2, _, kk z p, ha, (kk_data z p).symm, rfl, kk_depth z p, ?_⟩
    cases e : tkAt t (kk z p) with
    | some d =>
      rw [e] at h
      refine bqc true (show nHas _ _ = true by rw [nHas_tk, e]; rfl) (iteT ?_)
      exact ⟨sm2, _, kk z p, _, ha, (kk_data z p).symm, rfl, kk_depth z p, by rw [nAt_tk, e]; rfl, h⟩
    | none =>
      rw [e] at h
      refine bqc false (show nHas _ _ = false by rw [nHas_tk, e]; rfl) (iteF ?_)
      refine ⟨⟨_, ha⟩, sm2, _, kk z 0, ha, (kk_data z 0).symm, rfl, kk_depth z 0, ?_⟩
      rw [nAt_tk]
      cases e2 : tkAt t (kk z 0) with
      | some d => rw [e2] at h; exact h
      | none => rw [e2] at h; exact h
theorem range_get {n j k : Nat} (h : (List.range n)[j]? = some k) : j < n ∧ k = j := by
  obtain ⟨h1, h2⟩ := List.getElem?_eq_some_iff.mp h
  rw [List.getElem_range] at h2
  exact ⟨by simpa using h1, h2.symm⟩
theorem any_go {bs : List Bool} {j : Nat} {σ : SD} {M : MH} {Q : W → MH → Prop} (e : σ[j]? = some (some (.d (.list (bs.map PyData.bool))))) (q : Q (.d (.bool (bs.any id))) M) : tCal Dl.rAny (tConsA (Dl.tVar j) tNilA) σ M Q := slot_in e (by
  show (match bools (bs.map PyData.bool) with | some bs => Q (.d (.bool (bs.any id))) M | none => False)
  rw [bools_map]
  exact q)
theorem all_go {bs : List Bool} {j : Nat} {σ : SD} {M : MH} {Q : W → MH → Prop} (e : σ[j]? = some (some (.d (.list (bs.map PyData.bool))))) (q : Q (.d (.bool (bs.all id))) M) : tCal Dl.rAll (tConsA (Dl.tVar j) tNilA) σ M Q := slot_in e (by
  show (match bools (bs.map PyData.bool) with | some bs => Q (.d (.bool (bs.all id))) M | none => False)
  rw [bools_map]
  exact q)
theorem all_id (bs : List Bool) : bs.all id = bs.all (fun b => b) := rfl
theorem any_id (bs : List Bool) : bs.any id = bs.any (fun b => b) := rfl
def spHB (g : Gc) : Nat → SpD
  | 0 => spNo
  | n + 1 => fun ws M Q _ => ∃ a t d wi c p f, ws = [.d (cnD c), .ref a, .d (.int p), .d (sdD (fkD f))] ∧ CnV d wi c ∧ d ≤ n ∧ M a = some (.dN g.P g.w (tkW t)) ∧ AnsT t ∧ FkOk f ∧ Q (.d (.bool (Hc t f p c))) M
theorem spHB_len {g : Gc} {n : Nat} : ∀ ws M Q E, spHB g n ws M Q E → ws.length = 4 := by
  cases n with
  | zero => intro _ _ _ _ h; exact h.elim
  | succ n => rintro _ _ _ _ ⟨a, t, d, wi, c, p, f, rfl, _⟩; rfl
theorem pc_heads {w n : Str} {y : PyData} (hp : isPiece w [.str n, y] = true) : PyData.eqv (.str w) (.str "not") = false ∧ PyData.eqv (.str w) (.str "and") = false ∧ PyData.eqv (.str w) (.str "or") = false ∧ (["is", "has", "from", "to"] : List Str).contains w = true := by
  rcases (piece_cases hp).2 with ⟨z, rfl | rfl, _⟩ | ⟨m, rfl | rfl, _⟩ <;> decide +kernel
theorem d_holds_by {g : Gc} (T : Txt g) : ∀ n : Nat, Df g (4 + n) "holds_by" ["condition", "taken", "person", "folk"] ((spHB g) n)
  | 0 => df_of (k := 3) (i := i_holds_by) T.p_holds_by T.sy sc_holds_by ok_holds_by (fun _ _ _ _ _ _ us hl => match us, hl with | [_, _, _, _], _ => rfl) (fun _ _ _ _ (h : False) => h.elim) (fun _ _ _ _ _ _ _ (h : False) => h.elim)
  | n + 1 => by
    refine df_of (k := 4 + n) (i := i_holds_by) T.p_holds_by T.sy sc_holds_by ok_holds_by (fun _ _ _ _ _ _ us hl => match us, hl with | [_, _, _, _], _ => rfl) ?_ (fun Y ws M Q E F hE h => ?_)
    · exact spHB_len
    · obtain ⟨a, t, d, wi, c, p, f, rfl, hc, hn, ha, hT, hF, h⟩ := h
      refine ⟨_, (ss_cons (s_set (q_ix (q_var F 0) q_int) (g_name F 4)) (ss_cons (s_if (t_cmp (o_eq F) (q_var F 4) q_str) (ss_one (s_ret (q_not (q_call F 4 (d_holds_by T n) (a_cons (q_ix (q_var F 0) q_int) (a_cons (q_var F 1) (a_cons (q_var F 2) (a_cons (q_var F 3) a_nil)))))))) ss_nil) (ss_cons (s_if (t_cmp (o_eq F) (q_var F 4) q_str) (ss_one (s_ret (q_callB F 1 (c_all F) T.n_all (by decide +kernel) (a_cons (q_lc (own := [("part", 7)]) F ⟨_, ["condition", "taken", "person", "folk", "word", "found", "k", "part"], [7, 1, 2, 3], [7], [], ["holds_by"], false, true⟩ (.one 7) ⟨rfl, rfl, ⟨rfl, by decide +kernel, by decide +kernel, by decide +kernel, by decide +kernel⟩, by decide +kernel, by decide +kernel, rfl, rfl⟩ (by decide) (i_tup (q_ix (q_var F 0) q_int)) (fun _ F hw => ⟨(pgN F 7), ts_nil, (q_callW hw F 0 (d_holds_by T n) (a_cons (q_var F 7) (a_cons (q_var F 1) (a_cons (q_var F 2) (a_cons (q_var F 3) a_nil)))))⟩)) a_nil)))) ss_nil) (ss_cons (s_if (t_cmp (o_eq F) (q_var F 4) q_str) (ss_one (s_ret (q_callB F 2 (c_any F) T.n_any (by decide +kernel) (a_cons (q_lc (own := [("part", 7)]) F ⟨_, ["condition", "taken", "person", "folk", "word", "found", "k", "part"], [7, 1, 2, 3], [7], [], ["holds_by"], false, true⟩ (.one 7) ⟨rfl, rfl, ⟨rfl, by decide +kernel, by decide +kernel, by decide +kernel, by decide +kernel⟩, by decide +kernel, by decide +kernel, rfl, rfl⟩ (by decide) (i_tup (q_ix (q_var F 0) q_int)) (fun _ F hw => ⟨(pgN F 7), ts_nil, (q_callW hw F 0 (d_holds_by T n) (a_cons (q_var F 7) (a_cons (q_var F 1) (a_cons (q_var F 2) (a_cons (q_var F 3) a_nil)))))⟩)) a_nil)))) ss_nil) (ss_cons (s_if (t_cmp (o_inK F T.c_PIECES.choose_spec) (q_var F 4) (q_ref F 0 T.c_PIECES.choose_spec)) (ss_one (s_ret (q_call F 3 (d_holds_piece T) (a_cons (q_var F 0) (a_cons (q_call F 5 (d_taken_of T) (a_cons (q_var F 1) (a_cons (q_ix (q_var F 0) q_int) (a_cons (q_var F 2) a_nil)))) a_nil))))) ss_nil) (ss_cons (s_setlc (own := [("k", 6)]) F 5 ⟨_, ["condition", "taken", "person", "folk", "word", "found", "k", "part"], [6, 1, 3, 0], [6], [], ["holds_by"], false, true⟩ (.one 6) ⟨rfl, rfl, ⟨rfl, by decide +kernel, by decide +kernel, by decide +kernel, by decide +kernel⟩, by decide +kernel, by decide +kernel, rfl, rfl⟩ (by decide) (i_rng2 F 6 T.n_range (a_cons q_int (a_cons (q_bin o_add (q_dget2 F (q_var F 3) (q_ix (q_var F 0) q_int) q_int) q_int) a_nil))) (fun _ F hw => ⟨(pgN F 6), ts_nil, (q_callW hw F 0 (d_holds_by T n) (a_cons (q_ix (q_var F 0) q_int) (a_cons (q_var F 1) (a_cons (q_var F 6) (a_cons (q_var F 3) a_nil)))))⟩)) (ss_one (s_ret (q_ite (t_cmp (o_eq F) (q_var F 4) q_str) (q_callB F 2 (c_any F) T.n_any (by decide +kernel) (a_cons (q_var F 5) a_nil)) (q_callB F 1 (c_all F) T.n_all (by decide +kernel) (a_cons (q_var F 5) a_nil))))))))))), ?_⟩
      obtain ⟨n, rfl⟩ : ∃ m, n = m + 1 := by obtain ⟨m, rfl⟩ := cnv_pos hc; exact ⟨n - 1, by omega⟩
      cases hc with
      | @pc d _ w nm y hp =>
        obtain ⟨w1, w2, w3, w4⟩ := pc_heads hp
        rw [Hc] at h
        rw [show cnD (.pc w nm y) = .tuple [.str w, .str nm, y] by rw [cnD]]
        refine ⟨_, at0, rfl, bqc false w1 (iteF ?_)⟩
        refine ⟨rfl, bqc false w2 (iteF ?_)⟩
        refine ⟨rfl, bqc false w3 (iteF ?_)⟩
        refine ⟨rfl, bqc true w4 (iteT ?_)⟩
        refine ⟨_, at1, a, t, nm, p, rfl, ha, ?_⟩
        exact ⟨w, nm, y, _, rfl, hp, takD_ans hT nm p, h⟩
      | @nt d _ c hc =>
        rw [Hc] at h
        rw [show cnD (.nt c) = .tuple [.str "not", cnD c] by rw [cnD]]
        refine ⟨_, at0, rfl, bqc true (by decide +kernel) (iteT ?_)⟩
        exact ⟨_, at1, a, t, d, wi, c, p, f, rfl, hc, by omega, ha, hT, hF, h⟩
      | @jn d _ w cs hw h2 h6 hc =>
        rw [Hc, Hcs_map] at h
        rw [show cnD (.jn w cs) = .tuple [.str w, .tuple (cnDs cs)] by rw [cnD]]
        have each : ∀ (j : Nat) (v : W) (dd : PyData), ((cnDs cs).map W.d)[j]? = some v → ((cs.map (Hc t f p)).map PyData.bool)[j]? = some dd → ∃ c2, v = .d (cnD c2) ∧ CnV d wi c2 ∧ dd = .bool (Hc t f p c2) := by
          intro j v dd hj hd
          rw [cnDs_map] at hj
          simp only [List.getElem?_map, Option.map_map, Option.map_eq_some_iff] at hj hd
          obtain ⟨c2, e1, e2⟩ := hj
          obtain ⟨c3, e3, e4⟩ := hd
          rw [e1] at e3
          cases e3
          exact ⟨c2, e2.symm, hc c2 (List.mem_of_getElem? e1), e4.symm⟩
        have hl : ((cs.map (Hc t f p)).map PyData.bool).length = ((cnDs cs).map W.d).length := by simp [cnDs_map]
        refine ⟨_, at0, rfl, bqc false (by rcases hw with rfl | rfl <;> decide +kernel) (iteF ?_)⟩
        rcases hw with rfl | rfl
        · rw [if_pos (by decide +kernel)] at h
          refine ⟨rfl, bqc true (by decide +kernel) (iteT ?_)⟩
          refine ⟨_, at1, ?_⟩
          refine lcX (jt := 7) _ hl (by simp [cnDs_map]; omega) (fun _ _ _ => trivial) ?_ ?_
          · intro j v dd hj hd
            obtain ⟨c2, rfl, hv2, rfl⟩ := each j v dd hj hd
            intro M2 k2 R r
            exact ⟨a, t, d, wi, c2, p, f, rfl, hv2, by omega, k2 _ _ ha, hT, hF, r⟩
          · show (match bools ((cs.map (Hc t f p)).map PyData.bool) with | some bs => Q (.d (.bool (bs.all id))) M | none => False)
            rw [bools_map]
            exact h
        · rw [if_neg (by decide +kernel)] at h
          refine ⟨rfl, bqc false (by decide +kernel) (iteF ?_)⟩
          refine ⟨rfl, bqc true (by decide +kernel) (iteT ?_)⟩
          refine ⟨_, at1, ?_⟩
          refine lcX (jt := 7) _ hl (by simp [cnDs_map]; omega) (fun _ _ _ => trivial) ?_ ?_
          · intro j v dd hj hd
            obtain ⟨c2, rfl, hv2, rfl⟩ := each j v dd hj hd
            intro M2 k2 R r
            exact ⟨a, t, d, wi, c2, p, f, rfl, hv2, by omega, k2 _ _ ha, hT, hF, r⟩
          · show (match bools ((cs.map (Hc t f p)).map PyData.bool) with | some bs => Q (.d (.bool (bs.any id))) M | none => False)
            rw [bools_map]
            exact h
      | @an d w nm c hw hnm hc =>
        rw [Hc] at h
        rw [show cnD (.an w nm c) = .tuple [.str w, .str nm, cnD c] by rw [cnD]]
        obtain ⟨f0, f4⟩ := fkN_b hF nm
        refine ⟨_, at0, rfl, bqc false (by rcases hw with rfl | rfl <;> decide +kernel) (iteF ?_)⟩
        refine ⟨rfl, bqc false (by rcases hw with rfl | rfl <;> decide +kernel) (iteF ?_)⟩
        refine ⟨rfl, bqc false (by rcases hw with rfl | rfl <;> decide +kernel) (iteF ?_)⟩
        refine ⟨rfl, bqc false (by rcases hw with rfl | rfl <;> decide +kernel) (iteF ?_)⟩
        obtain ⟨m, hm, hl⟩ : ∃ m, fkN f nm = m ∧ ((fkD f).lookup nm = some (.int m) ∨ ((fkD f).lookup nm = none ∧ m = 0)) := by
          refine ⟨_, rfl, ?_⟩
          unfold fkN
          rw [fkD_at]
          cases f.lookup nm with
          | none => exact .inr ⟨rfl, rfl⟩
          | some x => exact .inl rfl
        rw [hm] at h f0 f4
        have hln : ((((List.range m.toNat).map fun k : Nat => Hc t f (1 + (k : Int)) c)).map PyData.bool).length = (rng 1 (m + 1 - 1).toNat).length := by
          unfold rng
          simp
        have hz : (rng 1 (m + 1 - 1).toNat).length ≤ 16000000 := by
          unfold rng
          simp
          omega
        have each : ∀ (j : Nat) (v : W) (dd : PyData), (rng 1 (m + 1 - 1).toNat)[j]? = some v → ((((List.range m.toNat).map fun k : Nat => Hc t f (1 + (k : Int)) c)).map PyData.bool)[j]? = some dd → v = .d (.int (1 + (j : Int))) ∧ dd = .bool (Hc t f (1 + (j : Int)) c) := by
          intro j v dd hj hd
          obtain ⟨_, rfl⟩ := rng_get hj
          simp only [List.getElem?_map, Option.map_map, Option.map_eq_some_iff] at hd
          obtain ⟨c3, e3, e4⟩ := hd
          obtain ⟨e5, e6⟩ := range_get e3
          subst e6
          exact ⟨rfl, e4.symm⟩
        refine ⟨_, rfl, _, at1, ?_⟩
        dsimp only [tK]
        rcases hl with e | ⟨e, rfl⟩ <;> rw [e]
        all_goals
          refine ⟨⟨by decide, by decide⟩, ⟨by omega, by omega⟩, ?_⟩
          refine lcX (jt := 6) _ hln hz (fun _ _ _ => trivial) ?_ ?_
          · intro j v dd hj hd
            obtain ⟨rfl, rfl⟩ := each j v dd hj hd
            intro M2 k2 R r
            exact ⟨_, at2, a, t, d, true, c, _, f, rfl, hc, by omega, k2 _ _ ha, hT, hF, r⟩
          dsimp only [gNam]
          rcases hw with rfl | rfl
          · rw [if_pos (by decide +kernel)] at h
            refine ⟨rfl, bqc true (by decide +kernel) (iteT ?_)⟩
            exact any_go rfl h
          · rw [if_neg (by decide +kernel)] at h
            refine ⟨rfl, bqc false (by decide +kernel) (iteF ?_)⟩
            exact all_go rfl h
/-- holds -/
def spHo (g : Gc) : SpD := fun ws M Q E => ∃ a x t p fo, ws = [.d x, .ref a, .d (.int p), fo] ∧ okT x ∧ M a = some (.dN g.P g.w (tkW t)) ∧ AnsT t ∧
  ((isCond x = false ∧ E (ecl g "NoCondition") none M) ∨ (∃ c f, isCond x = true ∧ x = cnD c ∧ CnV 6 false c ∧ (fo = .d (sdD (fkD f)) ∨ (fo = .d .none ∧ f = [])) ∧ FkOk f ∧ Q (.d (.bool (Hc t f p c))) M))
theorem spHo_len {g : Gc} : ∀ ws M Q E, spHo g ws M Q E → ws.length = 4 := by rintro _ _ _ _ ⟨a, x, t, p, fo, rfl, _⟩; rfl
theorem d_holds {g : Gc} (T : Txt g) : DfD g 20 "holds" s_holds ["condition", "taken", "person", "folk"] (spHo g) [.int (0), .none] := by
  refine df_ofD (k := 19) (i := i_holds) T.p_holds T.sy sc_holds ok_holds ?_ (fun Y ws M Q E F hE h => ?_)
  · exact spHo_len
  · obtain ⟨a, x, t, p, fo, rfl, hx, ha, hT, h⟩ := h
    refine ⟨_, (ss_cons (s_expr (q_call F 0 (d_need_condition T) (a_cons (q_var F 0) a_nil))) (ss_one (s_ret (q_call F 1 (d_holds_by T 7) (a_cons (q_var F 0) (a_cons (q_var F 1) (a_cons (q_var F 2) (a_cons (q_ite (t_cmp o_isNot (q_var F 3) q_none) (q_var F 3) q_dct0) a_nil)))))))), ?_⟩
    refine ⟨x, rfl, hx, fun hc => ?_, fun hc => ?_⟩
    · rcases h with ⟨e, _⟩ | ⟨c, f, _, rfl, hv, hfo, hF, h⟩
      · rw [hc] at e; cases e
      dsimp only
      rcases hfo with rfl | ⟨rfl, rfl⟩
      · show (if (!isNone (sdD (fkD f))) = true then spHB g 7 [.d (cnD c), .ref a, .d (.int p), .d (sdD (fkD f))] M Q (fun _ _ _ => False) else spHB g 7 [.d (cnD c), .ref a, .d (.int p), .d (.dict [])] M Q (fun _ _ _ => False))
        rw [if_pos (show (!isNone (sdD (fkD f))) = true from rfl)]
        exact ⟨a, t, 6, false, c, p, f, rfl, hv, by decide, ha, hT, hF, h⟩
      · show (if (!isNone .none) = true then spHB g 7 [.d (cnD c), .ref a, .d (.int p), .d .none] M Q (fun _ _ _ => False) else spHB g 7 [.d (cnD c), .ref a, .d (.int p), .d (sdD (fkD []))] M Q (fun _ _ _ => False))
        rw [if_neg (by decide)]
        exact ⟨a, t, 6, false, c, p, [], rfl, hv, by decide, ha, hT, hF, h⟩
    · rcases h with ⟨_, h⟩ | ⟨c, f, e, _⟩
      · show Y.wd _ _ _ _
        rw [hE]
        exact h
      · rw [hc] at e; cases e
end Ms
set_option Elab.async false
set_option linter.all false
set_option maxRecDepth 100000
set_option maxHeartbeats 2000000
namespace Ms
open PySem PySem.Spec PyProof.Rows L2 Dl
theorem bools_ok : ∀ bs : List Bool, PyData.canLayAll0 (bs.map PyData.bool) = true ∧ PyData.depthAll (bs.map PyData.bool) ≤ 1
  | [] => ⟨rfl, by decide⟩
  | b :: bs => by
    obtain ⟨h1, h2⟩ := bools_ok bs
    constructor
    · simp [PyData.canLayAll0, PyData.canLay0, h1]
    · simp only [List.map_cons, PyData.depthAll, PyData.depth]
      omega
def spLH (g : Gc) : Nat → SpD
  | 0 => spNo
  | n + 1 => fun ws M Q _ => ∃ a t d wi c p f, ws = [.d (cnD c), .ref a, .d (.int p), .d (sdD (fkD f))] ∧ CnV d wi c ∧ d ≤ n ∧ M a = some (.dN g.P g.w (tkW t)) ∧ AnsT t ∧ FkOk f ∧ Q (.d (.bool (Hc t f p c))) M
theorem spLH_len {g : Gc} {n : Nat} : ∀ ws M Q E, spLH g n ws M Q E → ws.length = 4 := by
  cases n with
  | zero => intro _ _ _ _ h; exact h.elim
  | succ n => rintro _ _ _ _ ⟨a, t, d, wi, c, p, f, rfl, _⟩; rfl
theorem inD_bools (b : Bool) : ∀ bs : List Bool, inD (.bool b) (bs.map PyData.bool) = bs.any (fun x => x == b)
  | [] => rfl
  | x :: bs => by
    have := inD_bools b bs
    unfold inD at this ⊢
    rw [List.map_cons, List.any_cons, List.any_cons, this]
    cases x <;> cases b <;> rfl
theorem inD_true (bs : List Bool) : inD (.bool true) (bs.map PyData.bool) = bs.any (fun b => b) := by
  rw [inD_bools]
  congr 1
  funext x
  cases x <;> rfl
theorem inD_false (bs : List Bool) : (!inD (.bool false) (bs.map PyData.bool)) = bs.all (fun b => b) := by
  rw [inD_bools]
  induction bs with
  | nil => rfl
  | cons x bs ih =>
    rw [List.any_cons, List.all_cons, ← ih]
    cases x <;> first | rfl | simp
theorem bools_in (b : Bool) (bs : List Bool) : inOk (.bool b) (bs.map PyData.bool) = true := by
  obtain ⟨h1, h2⟩ := bools_ok bs
  unfold inOk
  rw [h1]
  simp [PyData.canLay0, PyData.depth]
theorem in_go {b : Bool} {bs : List Bool} {j : Nat} {σ : SD} {M : MH} {Q : W → MH → Prop} (e : σ[j]? = some (some (.d (.list (bs.map PyData.bool))))) (q : Q (.d (.bool (inD (.bool b) (bs.map PyData.bool)))) M) : tBin (rInD false) (tK (.bool b)) (Dl.tVar j) σ M Q := slot_in e ⟨bools_in b bs, q⟩
theorem notin_go {b : Bool} {bs : List Bool} {j : Nat} {σ : SD} {M : MH} {Q : W → MH → Prop} (e : σ[j]? = some (some (.d (.list (bs.map PyData.bool))))) (q : Q (.d (.bool (!inD (.bool b) (bs.map PyData.bool)))) M) : tBin (rInD true) (tK (.bool b)) (Dl.tVar j) σ M Q := slot_in e ⟨bools_in b bs, q⟩
/-- the key where an answer stands -/
theorem tak_key (t : TK) (z : Str) (p : Int) : ((tkAt t (kk z p)).isSome = true ∧ ∃ d, tkAt t (kk z p) = some d ∧ takD t z p = d) ∨ (tkAt t (kk z p) = none ∧ tkAt t (kk z 0) = none ∧ takD t z p = .none) ∨ (tkAt t (kk z p) = none ∧ ∃ d, tkAt t (kk z 0) = some d ∧ takD t z p = d) := by
  unfold takD
  cases e : tkAt t (kk z p) with
  | some d => exact .inl ⟨rfl, d, rfl, rfl⟩
  | none =>
    cases e2 : tkAt t (kk z 0) with
    | none => exact .inr (.inl ⟨rfl, rfl, rfl⟩)
    | some d => exact .inr (.inr ⟨rfl, d, rfl, rfl⟩)
def lhTail : TSd := tSq (tIfD (tTst (tBin rEqd (Dl.tVar 4) (tK (.str "is")))) (tRtn (tAnd2 (tIsi isStr (Dl.tVar 8)) (tBin rEqd (Dl.tVar 8) (Dl.tVar 9)))) tNxt)
  (tSq (tIfD (tTst (tBin rEqd (Dl.tVar 4) (tK (.str "has")))) (tRtn (tAnd2 (tIsi isTup (Dl.tVar 8)) (tBin (Dl.rInD false) (Dl.tVar 9) (Dl.tVar 8)))) tNxt)
    (tSq (tIfD (Dl.tNotT (tTst (tIsi Dl.isInt (Dl.tVar 8)))) (tRtn (tK (.bool false))) tNxt)
      (tRtn (tIte (tTst (tBin rEqd (Dl.tVar 4) (tK (.str "from")))) (tBin (rInt0 fun i j => PyData.bool (decide (j ≤ i))) (Dl.tVar 8) (Dl.tVar 9)) (tBin (rInt0 fun i j => PyData.bool (decide (i ≤ j))) (Dl.tVar 8) (Dl.tVar 9))))))
theorem lh_tail {w nm : Str} {y dd : PyData} (hp : isPiece w [.str nm, y] = true) (hd : AnsV dd) {M : MH} {Q : W → MH → Prop} {D : EndsD} (hD : D.rt = Q) {x0 x1 x2 x3 x5 x6 x7 x10 x11 : Option W} (h : Q (.d (.bool (pcH w dd y))) M) :
    lhTail D [x0, x1, x2, x3, some (.d (.str w)), x5, x6, x7, some (.d dd), some (.d y), x10, x11] M := by
  subst hD
  unfold lhTail
  rcases piece_w hp with ⟨rfl, z, rfl, hz⟩ | ⟨rfl, z, rfl, hz⟩ | ⟨rfl, z, rfl, hz⟩ | ⟨rfl, z, rfl, hz⟩
  · refine ⟨rfl, bqc true (by decide +kernel) (iteT ?_)⟩
    cases hd with
    | str h1 => exact ⟨rfl, qcast h (by simp [pcH])⟩
    | tup h1 h2 => exact qcast h rfl
    | int h1 h2 => exact qcast h rfl
  · refine ⟨rfl, bqc false (by decide +kernel) (iteF ?_)⟩
    dsimp only [tNxt]
    refine ⟨rfl, bqc true (by decide +kernel) (iteT ?_)⟩
    cases hd with
    | str h1 => exact qcast h rfl
    | tup h1 h2 => exact ⟨inA_strs (fun x hx => name_sok (h2 x hx)) (name_sok hz), qcast h (by simp [pcH])⟩
    | int h1 h2 => exact qcast h rfl
  · refine ⟨rfl, bqc false (by decide +kernel) (iteF ?_)⟩
    dsimp only [tNxt]
    refine ⟨rfl, bqc false (by decide +kernel) (iteF ?_)⟩
    dsimp only [tNxt]
    cases hd with
    | str h1 => exact (show D.rt (.d (.bool false)) M from qcast h rfl)
    | tup h1 h2 => exact (show D.rt (.d (.bool false)) M from qcast h rfl)
    | @int n h1 h2 =>
      refine ⟨rfl, bqc true (by decide +kernel) (iteT (qcast h ?_))⟩
      show ((("from" : Str) == ("from" : Str)) && decide (n ≥ z) || (("from" : Str) == ("to" : Str)) && decide (n ≤ z)) = _
      rw [show (("from" : Str) == ("from" : Str)) = true by decide +kernel, show (("from" : Str) == ("to" : Str)) = false by decide +kernel]
      simp
  · refine ⟨rfl, bqc false (by decide +kernel) (iteF ?_)⟩
    dsimp only [tNxt]
    refine ⟨rfl, bqc false (by decide +kernel) (iteF ?_)⟩
    dsimp only [tNxt]
    cases hd with
    | str h1 => exact (show D.rt (.d (.bool false)) M from qcast h rfl)
    | tup h1 h2 => exact (show D.rt (.d (.bool false)) M from qcast h rfl)
    | @int n h1 h2 =>
      refine ⟨rfl, bqc false (by decide +kernel) (iteF (qcast h ?_))⟩
      show ((("to" : Str) == ("from" : Str)) && decide (n ≥ z) || (("to" : Str) == ("to" : Str)) && decide (n ≤ z)) = _
      rw [show (("to" : Str) == ("from" : Str)) = false by decide +kernel, show (("to" : Str) == ("to" : Str)) = true by decide +kernel]
      simp
theorem d_L_holds {g : Gc} (T : Txt g) : ∀ n : Nat, Df g (1 + n) "_law_holds" ["_law_condition_here", "_law_taken_here", "_law_someone", "_law_house"] ((spLH g) n)
  | 0 => df_of (k := 0) (i := i_L_holds) T.p_L_holds T.sy sc_L_holds ok_L_holds (fun _ _ _ _ _ _ us hl => match us, hl with | [_, _, _, _], _ => rfl) (fun _ _ _ _ (h : False) => h.elim) (fun _ _ _ _ _ _ _ (h : False) => h.elim)
  | n + 1 => by
    refine df_of (k := 1 + n) (i := i_L_holds) T.p_L_holds T.sy sc_L_holds ok_L_holds (fun _ _ _ _ _ _ us hl => match us, hl with | [_, _, _, _], _ => rfl) ?_ (fun Y ws M Q E F hE h => ?_)
    · exact spLH_len
    · obtain ⟨a, t, d, wi, c, p, f, rfl, hc, hn, ha, hT, hF, h⟩ := h
      refine ⟨_, (ss_cons (s_set (q_ix (q_var F 0) q_int) (g_name F 4)) (ss_cons (s_if (t_cmp (o_eq F) (q_var F 4) q_str) (ss_one (s_ret (q_not (q_call F 2 (d_L_holds T n) (a_cons (q_ix (q_var F 0) q_int) (a_cons (q_var F 1) (a_cons (q_var F 2) (a_cons (q_var F 3) a_nil)))))))) ss_nil) (ss_cons (s_if (t_cmp (o_in F) (q_var F 4) (q_tup (a_cons q_str (a_cons q_str a_nil)))) (ss_cons (s_setlc (own := [("_law_part", 10)]) F 5 ⟨_, ["_law_condition_here", "_law_taken_here", "_law_someone", "_law_house", "_law_word_here", "_law_found", "_law_many", "_law_key", "_law_value", "_law_sought", "_law_part", "_law_k"], [10, 1, 2, 3], [10], [], ["_law_holds"], false, true⟩ (.one 10) ⟨rfl, rfl, ⟨rfl, by decide +kernel, by decide +kernel, by decide +kernel, by decide +kernel⟩, by decide +kernel, by decide +kernel, rfl, rfl⟩ (by decide) (i_tup (q_ix (q_var F 0) q_int)) (fun _ F hw => ⟨(pgN F 10), ts_nil, (q_callW hw F 0 (d_L_holds T n) (a_cons (q_var F 10) (a_cons (q_var F 1) (a_cons (q_var F 2) (a_cons (q_var F 3) a_nil)))))⟩)) (ss_one (s_ret (q_ite (t_cmp (o_eq F) (q_var F 4) q_str) (q_cmp (o_notIn F) q_bool (q_var F 5)) (q_cmp (o_in F) q_bool (q_var F 5)))))) ss_nil) (ss_cons (s_if (t_cmp (o_in F) (q_var F 4) (q_tup (a_cons q_str (a_cons q_str a_nil)))) (ss_cons (s_set (q_ite (t_cmp (o_din F) (q_ix (q_var F 0) q_int) (q_var F 3)) (q_dix F (q_var F 3) (q_ix (q_var F 0) q_int)) q_int) (g_name F 6)) (ss_cons (s_setlc (own := [("_law_k", 11)]) F 5 ⟨_, ["_law_condition_here", "_law_taken_here", "_law_someone", "_law_house", "_law_word_here", "_law_found", "_law_many", "_law_key", "_law_value", "_law_sought", "_law_part", "_law_k"], [11, 1, 3, 0], [11], [], ["_law_holds"], false, true⟩ (.one 11) ⟨rfl, rfl, ⟨rfl, by decide +kernel, by decide +kernel, by decide +kernel, by decide +kernel⟩, by decide +kernel, by decide +kernel, rfl, rfl⟩ (by decide) (i_rng2 F 5 T.n_range (a_cons q_int (a_cons (q_bin o_add (q_var F 6) q_int) a_nil))) (fun _ F hw => ⟨(pgN F 11), ts_nil, (q_callW hw F 0 (d_L_holds T n) (a_cons (q_ix (q_var F 0) q_int) (a_cons (q_var F 1) (a_cons (q_var F 11) (a_cons (q_var F 3) a_nil)))))⟩)) (ss_one (s_ret (q_ite (t_cmp (o_eq F) (q_var F 4) q_str) (q_cmp (o_in F) q_bool (q_var F 5)) (q_cmp (o_notIn F) q_bool (q_var F 5))))))) ss_nil) (ss_cons (s_set (q_ite (t_cmp (o_nin F) (q_tup (a_cons (q_ix (q_var F 0) q_int) (a_cons (q_var F 2) a_nil))) (q_var F 1)) (q_tup (a_cons (q_ix (q_var F 0) q_int) (a_cons (q_var F 2) a_nil))) (q_tup (a_cons (q_ix (q_var F 0) q_int) (a_cons q_int a_nil)))) (g_name F 7)) (ss_cons (s_if (t_cmp (o_nnotin F) (q_var F 7) (q_var F 1)) (ss_one (s_ret q_bool)) ss_nil) (ss_cons (s_par F 8 9 (a_cons (q_nget F (q_var F 1) (q_var F 7)) (a_cons (q_ix (q_var F 0) q_int) a_nil))) (ss_cons (s_if (t_cmp (o_eq F) (q_var F 4) q_str) (ss_one (s_ret (q_and (q_isi F 0 3 isk_str T.n_isinstance T.n_str (by decide +kernel) (q_var F 8)) (q_one (q_cmp (o_eq F) (q_var F 8) (q_var F 9)))))) ss_nil) (ss_cons (s_if (t_cmp (o_eq F) (q_var F 4) q_str) (ss_one (s_ret (q_and (q_isi F 0 4 isk_tuple T.n_isinstance T.n_tuple (by decide +kernel) (q_var F 8)) (q_one (q_cmp (o_in F) (q_var F 9) (q_var F 8)))))) ss_nil) (ss_cons (s_if (t_not (t_val (q_isi F 0 1 isk_int T.n_isinstance T.n_int (by decide +kernel) (q_var F 8)))) (ss_one (s_ret q_bool)) ss_nil) (ss_one (s_ret (q_ite (t_cmp (o_eq F) (q_var F 4) q_str) (q_cmp o_ge (q_var F 8) (q_var F 9)) (q_cmp o_le (q_var F 8) (q_var F 9))))))))))))))), ?_⟩
      obtain ⟨n, rfl⟩ : ∃ m, n = m + 1 := by obtain ⟨m, rfl⟩ := cnv_pos hc; exact ⟨n - 1, by omega⟩
      cases hc with
      | @pc d _ w nm y hp =>
        rw [Hc] at h
        rw [show cnD (.pc w nm y) = .tuple [.str w, .str nm, y] by rw [cnD]]
        have wk : PyData.eqv (.str w) (.str "not") = false ∧ inOk (.str w) joinD = true ∧ inD (.str w) joinD = false ∧ inOk (.str w) anyD = true ∧ inD (.str w) anyD = false := by
          rcases (piece_cases hp).2 with ⟨z, rfl | rfl, _⟩ | ⟨m, rfl | rfl, _⟩ <;> decide +kernel
        obtain ⟨w1, w2, w3, w4, w5⟩ := wk
        refine ⟨_, at0, rfl, bqc false w1 (iteF ?_)⟩
        refine ⟨sm2, w2, bqc false w3 (iteF ?_)⟩
        refine ⟨sm2, w4, bqc false w5 (iteF ?_)⟩
        refine ⟨_, at1, sm2, _, kk nm p, ha, (kk_data nm p).symm, rfl, kk_depth nm p, ?_⟩
        rcases tak_key t nm p with ⟨_, dd, e, ed⟩ | ⟨e, e0, ed⟩ | ⟨e, dd, e0, ed⟩
        · refine bqc true (show nHas _ _ = true by rw [nHas_tk, e]; rfl) (iteT ?_)
          refine ⟨_, at1, sm2, ?_⟩
          dsimp only [gNam]
          refine ⟨_, kk nm p, ha, (kk_data nm p).symm, rfl, kk_depth nm p, bqc false (show (!nHas _ _) = false by rw [nHas_tk, e]; rfl) (iteF ?_)⟩
          refine ⟨_, kk nm p, _, ha, (kk_data nm p).symm, rfl, kk_depth nm p, by rw [nAt_tk, e]; rfl, _, at2, ?_⟩
          have hd : AnsV dd := by
            obtain ⟨q, h1, h2⟩ := tkAt_mem e
            rw [← h2]
            exact hT q h1
          rw [ed] at h
          exact lh_tail (D := { nx := fun x M' => Q (.d .none) M', rt := Q }) hp hd rfl h
        · refine bqc false (show nHas _ _ = false by rw [nHas_tk, e]; rfl) (iteF ?_)
          refine ⟨_, at1, sm2, ?_⟩
          dsimp only [gNam]
          refine ⟨_, kk nm 0, ha, (kk_data nm 0).symm, rfl, kk_depth nm 0, bqc true (show (!nHas _ _) = true by rw [nHas_tk, e0]; rfl) (iteT ?_)⟩
          rw [ed, pcH_none] at h
          exact h
        · refine bqc false (show nHas _ _ = false by rw [nHas_tk, e]; rfl) (iteF ?_)
          refine ⟨_, at1, sm2, ?_⟩
          dsimp only [gNam]
          refine ⟨_, kk nm 0, ha, (kk_data nm 0).symm, rfl, kk_depth nm 0, bqc false (show (!nHas _ _) = false by rw [nHas_tk, e0]; rfl) (iteF ?_)⟩
          refine ⟨_, kk nm 0, _, ha, (kk_data nm 0).symm, rfl, kk_depth nm 0, by rw [nAt_tk, e0]; rfl, _, at2, ?_⟩
          have hd : AnsV dd := by
            obtain ⟨q, h1, h2⟩ := tkAt_mem e0
            rw [← h2]
            exact hT q h1
          rw [ed] at h
          exact lh_tail (D := { nx := fun x M' => Q (.d .none) M', rt := Q }) hp hd rfl h
      | @nt d _ c hc =>
        rw [Hc] at h
        rw [show cnD (.nt c) = .tuple [.str "not", cnD c] by rw [cnD]]
        refine ⟨_, at0, rfl, bqc true (by decide +kernel) (iteT ?_)⟩
        exact ⟨_, at1, a, t, d, wi, c, p, f, rfl, hc, by omega, ha, hT, hF, h⟩
      | @jn d _ w cs hw h2 h6 hc =>
        rw [Hc, Hcs_map] at h
        rw [show cnD (.jn w cs) = .tuple [.str w, .tuple (cnDs cs)] by rw [cnD]]
        have each : ∀ (j : Nat) (v : W) (dd : PyData), ((cnDs cs).map W.d)[j]? = some v → ((cs.map (Hc t f p)).map PyData.bool)[j]? = some dd → ∃ c2, v = .d (cnD c2) ∧ CnV d wi c2 ∧ dd = .bool (Hc t f p c2) := by
          intro j v dd hj hd
          rw [cnDs_map] at hj
          simp only [List.getElem?_map, Option.map_map, Option.map_eq_some_iff] at hj hd
          obtain ⟨c2, e1, e2⟩ := hj
          obtain ⟨c3, e3, e4⟩ := hd
          rw [e1] at e3
          cases e3
          exact ⟨c2, e2.symm, hc c2 (List.mem_of_getElem? e1), e4.symm⟩
        have hl : ((cs.map (Hc t f p)).map PyData.bool).length = ((cnDs cs).map W.d).length := by simp [cnDs_map]
        refine ⟨_, at0, rfl, bqc false (by rcases hw with rfl | rfl <;> decide +kernel) (iteF ?_)⟩
        refine ⟨sm2, by rcases hw with rfl | rfl <;> decide +kernel, bqc true (by rcases hw with rfl | rfl <;> decide +kernel) (iteT ?_)⟩
        refine ⟨_, at1, ?_⟩
        refine lcX (jt := 10) _ hl (by simp [cnDs_map]; omega) (fun _ _ _ => trivial) ?_ ?_
        · intro j v dd hj hd
          obtain ⟨c2, rfl, hv2, rfl⟩ := each j v dd hj hd
          intro M2 k2 R r
          exact ⟨a, t, d, wi, c2, p, f, rfl, hv2, by omega, k2 _ _ ha, hT, hF, r⟩
        dsimp only [gNam]
        rcases hw with rfl | rfl
        · rw [if_pos (by decide +kernel)] at h
          refine ⟨rfl, bqc true (by decide +kernel) (iteT ?_)⟩
          refine notin_go rfl ?_
          rw [inD_false]
          exact h
        · rw [if_neg (by decide +kernel)] at h
          refine ⟨rfl, bqc false (by decide +kernel) (iteF ?_)⟩
          refine in_go rfl ?_
          rw [inD_true]
          exact h
      | @an d w nm c hw hnm hc =>
        rw [Hc] at h
        rw [show cnD (.an w nm c) = .tuple [.str w, .str nm, cnD c] by rw [cnD]]
        obtain ⟨f0, f4⟩ := fkN_b hF nm
        refine ⟨_, at0, rfl, bqc false (by rcases hw with rfl | rfl <;> decide +kernel) (iteF ?_)⟩
        refine ⟨sm2, by rcases hw with rfl | rfl <;> decide +kernel, bqc false (by rcases hw with rfl | rfl <;> decide +kernel) (iteF ?_)⟩
        refine ⟨sm2, by rcases hw with rfl | rfl <;> decide +kernel, bqc true (by rcases hw with rfl | rfl <;> decide +kernel) (iteT ?_)⟩
        obtain ⟨m, hm, hl⟩ : ∃ m, fkN f nm = m ∧ ((fkD f).lookup nm = some (.int m) ∨ ((fkD f).lookup nm = none ∧ m = 0)) := by
          refine ⟨_, rfl, ?_⟩
          unfold fkN
          rw [fkD_at]
          cases f.lookup nm with
          | none => exact .inr ⟨rfl, rfl⟩
          | some x => exact .inl rfl
        rw [hm] at h f0 f4
        have hln : ((((List.range m.toNat).map fun k : Nat => Hc t f (1 + (k : Int)) c)).map PyData.bool).length = (rng 1 (m + 1 - 1).toNat).length := by
          unfold rng
          simp
        have hz : (rng 1 (m + 1 - 1).toNat).length ≤ 16000000 := by
          unfold rng
          simp
          omega
        have each : ∀ (j : Nat) (v : W) (dd : PyData), (rng 1 (m + 1 - 1).toNat)[j]? = some v → ((((List.range m.toNat).map fun k : Nat => Hc t f (1 + (k : Int)) c)).map PyData.bool)[j]? = some dd → v = .d (.int (1 + (j : Int))) ∧ dd = .bool (Hc t f (1 + (j : Int)) c) := by
          intro j v dd hj hd
          obtain ⟨_, rfl⟩ := rng_get hj
          simp only [List.getElem?_map, Option.map_map, Option.map_eq_some_iff] at hd
          obtain ⟨c3, e3, e4⟩ := hd
          obtain ⟨e5, e6⟩ := range_get e3
          subst e6
          exact ⟨rfl, e4.symm⟩
        refine ⟨_, at1, _, nm, rfl, rfl, ?_⟩
        rcases hl with e | ⟨e, rfl⟩
        · refine bqc true (show ((fkD f).lookup nm).isSome = true by rw [e]; rfl) (iteT ?_)
          refine ⟨_, at1, _, nm, _, rfl, rfl, e, ?_⟩
          dsimp only [gNam]
          refine ⟨⟨by decide, by decide⟩, ⟨by omega, by omega⟩, ?_⟩
          refine lcX (jt := 11) _ hln hz (fun _ _ _ => trivial) ?_ ?_
          · intro j v dd hj hd
            obtain ⟨rfl, rfl⟩ := each j v dd hj hd
            intro M2 k2 R r
            exact ⟨_, at2, a, t, d, true, c, _, f, rfl, hc, by omega, k2 _ _ ha, hT, hF, r⟩
          dsimp only [gNam]
          rcases hw with rfl | rfl
          · rw [if_pos (by decide +kernel)] at h
            refine ⟨rfl, bqc true (by decide +kernel) (iteT ?_)⟩
            refine in_go rfl ?_
            rw [inD_true]
            exact h
          · rw [if_neg (by decide +kernel)] at h
            refine ⟨rfl, bqc false (by decide +kernel) (iteF ?_)⟩
            refine notin_go rfl ?_
            rw [inD_false]
            exact h
        · refine bqc false (show ((fkD f).lookup nm).isSome = false by rw [e]; rfl) (iteF ?_)
          dsimp only [tK, gNam]
          refine ⟨⟨by decide, by decide⟩, ⟨by omega, by omega⟩, ?_⟩
          refine lcX (jt := 11) _ hln hz (fun _ _ _ => trivial) ?_ ?_
          · intro j v dd hj hd
            obtain ⟨rfl, rfl⟩ := each j v dd hj hd
            intro M2 k2 R r
            exact ⟨_, at2, a, t, d, true, c, _, f, rfl, hc, by omega, k2 _ _ ha, hT, hF, r⟩
          dsimp only [gNam]
          rcases hw with rfl | rfl
          · rw [if_pos (by decide +kernel)] at h
            refine ⟨rfl, bqc true (by decide +kernel) (iteT ?_)⟩
            refine in_go rfl ?_
            rw [inD_true]
            exact h
          · rw [if_neg (by decide +kernel)] at h
            refine ⟨rfl, bqc false (by decide +kernel) (iteF ?_)⟩
            refine notin_go rfl ?_
            rw [inD_false]
            exact h
end Ms
set_option Elab.async false
set_option linter.all false
set_option maxRecDepth 100000
/-! a comprehension that draws, also in its test -/
namespace Dl
open PySem PySem.Spec PyProof.Rows L2
theorem lcDrawF {ws : List W} {kc : MH → Prop} {M1 : MH} {σ : SD} {vs : List Nat} {jt : Nat} {tt : TTd} {te : TEd} {R0 : List PyData → MH → Prop} (p : Addr) (n c : Nat) (P : PyData → Prop) (hz : ws.length ≤ 16000000) (hkc : ∀ M, kc M) (hp : Pot p n M1)
    (he : ∀ (j : Nat) w, ws[j]? = some w → tgQ (.one jt) w (wipeD σ vs) fun σ2 => ∀ M2, Pot p (n + c * j) M2 → Oth p M1 M2 → ∀ (RF : MH → Prop) (RT : W → MH → Prop), (∀ M3, Pot p (n + c * j + c) M3 → Oth p M2 M3 → RF M3) → (∀ x M3, P x → Pot p (n + c * j + c) M3 → Oth p M2 M3 → RT (.d x) M3) → tt σ2 M2 fun b M4 => if b = true then te σ2 M4 RT else RF M4)
    (q : ∀ ds M3, ds.length ≤ ws.length → (∀ d ∈ ds, P d) → Pot p (n + c * ws.length) M3 → Oth p M1 M3 → R0 ds M3) :
    ∀ D, M1 D = none → ∃ I : Nat → List W → MH → Prop, I 0 [] (mset M1 D (.lst [])) ∧ (∀ j acc M2, I j acc M2 → kc M2 ∧ M2 D = some (.lst acc)) ∧
      (∀ j w acc M2, ws[j]? = some w → I j acc M2 → tgQ (.one jt) w (wipeD σ vs) fun σ2 => tt σ2 M2 fun b M4 => if b = true then te σ2 M4 fun x M5 => M5 D = some (.lst acc) ∧ acc.length < sizeLine ∧ I (j + 1) (acc ++ [x]) (mset M5 D (.lst (acc ++ [x]))) else I (j + 1) acc M4) ∧
      (∀ acc M2, I ws.length acc M2 → dataQ R0 acc (mdel M2 D)) := by
  intro D nD
  have pD := hp.ne nD
  have sz := sizeLine_eq
  refine ⟨fun j acc M2 => j ≤ ws.length ∧ M2 D = some (.lst acc) ∧ Pot p (n + c * j) M2 ∧ Oth p M1 M2 ∧ ∃ ds : List PyData, acc = ds.map W.d ∧ ds.length ≤ j ∧ ∀ d ∈ ds, P d, ?_, ?_, ?_, ?_⟩
  · refine ⟨Nat.zero_le _, mset_same, (hp.mono (by omega)).of (mset_ne pD), ?_, [], rfl, Nat.le_refl _, by simp⟩
    intro b o nb e
    rw [mset_ne (by rintro rfl; rw [nD] at e; cases e)]
    exact e
  · rintro j acc M2 ⟨_, h, _⟩
    exact ⟨hkc _, h⟩
  · rintro j w acc M2 hj ⟨hle, hD, hpj, ho, ds, rfl, hl, hP⟩
    have hj2 : j < ws.length := (List.getElem?_eq_some_iff.mp hj).1
    have mul : n + c * j + c = n + c * (j + 1) := by rw [Nat.mul_add, Nat.mul_one]; omega
    have z := he j w hj
    dsimp only [tgQ] at z ⊢
    refine z M2 hpj ho _ _ (fun M3 pp oo => ?_) (fun x M3 px pp oo => ?_)
    · exact ⟨by omega, oo D _ (fun e => pD e.symm) hD, by rw [← mul]; exact pp, ho.trans oo, ds, rfl, by omega, hP⟩
    · refine ⟨oo D _ (fun e => pD e.symm) hD, by rw [List.length_map]; omega, by omega, mset_same, ?_, ?_, ds ++ [x], by simp, by simp; omega, ?_⟩
      · rw [← mul]
        exact pp.of (mset_ne pD)
      · intro b o nb e
        rw [mset_ne (by rintro rfl; rw [nD] at e; cases e)]
        exact oo b o nb (ho b o nb e)
      · intro d hd
        rcases List.mem_append.mp hd with h1 | h1
        · exact hP d h1
        · rw [List.mem_singleton.mp h1]; exact px
  · rintro acc M2 ⟨_, hD, hpj, ho, ds, rfl, hl, hP⟩
    refine dataQ_of (q ds _ hl hP (hpj.of (mdel_ne pD)) ?_)
    intro b o nb e
    rw [mdel_ne (by rintro rfl; rw [nD] at e; cases e)]
    exact ho b o nb e
theorem sPuts_map {α β : Type} (f : α → β) : ∀ (more l : List (Str × α)), sPuts (l.map fun q => (q.1, f q.2)) (more.map fun q => (q.1, f q.2)) = (sPuts l more).map fun q => (q.1, f q.2)
  | [], l => rfl
  | q :: r, l => by
    show sPuts (sPut (l.map fun q => (q.1, f q.2)) q.1 (f q.2)) (r.map fun q => (q.1, f q.2)) = _
    rw [sPut_map, sPuts_map f r (sPut l q.1 q.2)]
    rfl
theorem sPut_mem {α : Type} {l : List (Str × α)} {z : Str} {w : α} {q : Str × α} (h : q ∈ sPut l z w) : q ∈ l ∨ q = (z, w) := by
  unfold sPut at h
  split at h
  · obtain ⟨x, hx, rfl⟩ := List.mem_map.mp h
    split
    · rename_i e
      right
      rw [e]
    · exact .inl hx
  · rcases List.mem_append.mp h with h | h
    · exact .inl h
    · exact .inr (List.mem_singleton.mp h)
theorem sPuts_mem {α : Type} {q : Str × α} : ∀ {more l : List (Str × α)}, q ∈ sPuts l more → q ∈ l ∨ q ∈ more
  | [], l, h => .inl h
  | x :: r, l, h => by
    rcases sPuts_mem (more := r) (l := sPut l x.1 x.2) h with h | h
    · rcases sPut_mem h with h | h
      · exact .inl h
      · exact .inr (by rw [h]; exact List.mem_cons_self)
    · exact .inr (List.mem_cons_of_mem _ h)
end Dl
set_option Elab.async false
set_option linter.all false
set_option maxRecDepth 100000
namespace Ms
open PySem PySem.Spec PyProof.Rows L2 Dl
/-- a pair drawn -/
def PrX (x : PyData) : Prop := ∃ z n, x = Dl.prD (z, .int n) ∧ isNameS z = true ∧ 0 ≤ n ∧ n ≤ 4
theorem prx_list : ∀ {ds : List PyData}, (∀ d ∈ ds, PrX d) → ∃ f : FK, ds = (fkD f).map Dl.prD ∧ FkOk f ∧ (∀ q ∈ f, isNameS q.1 = true) ∧ f.length = ds.length
  | [], _ => ⟨[], rfl, fun _ h => (nomatch h), fun _ h => (nomatch h), rfl⟩
  | d :: ds, h => by
    obtain ⟨f, rfl, h1, h2, h3⟩ := prx_list fun x hx => h x (List.mem_cons_of_mem _ hx)
    obtain ⟨z, n, rfl, hz, n0, n4⟩ := h d List.mem_cons_self
    refine ⟨(z, n) :: f, rfl, fun q hq => ?_, fun q hq => ?_, by rw [List.length_cons, List.length_cons, h3]⟩
    · rcases List.mem_cons.mp hq with rfl | hq
      · exact ⟨n0, n4⟩
      · exact h1 q hq
    · rcases List.mem_cons.mp hq with rfl | hq
      · exact hz
      · exact h2 q hq
structure FkX (f : FK) : Prop where
  o : FkOk f
  n : ∀ q ∈ f, isNameS q.1 = true
  l : f.length ≤ 4
def spFo : SpD := fun ws M Q _ => ∃ (a : Addr) (n : Nat) (x : PyData), ws = [.ref a, .d x] ∧ Nms x ∧ n + 8 ≤ lots ∧ Pot a n M ∧ ∀ f M', FkX f → Pot a (n + 8) M' → Oth a M M' → Q (.d (sdD (fkD f))) M'
theorem spFo_len : ∀ ws M Q E, spFo ws M Q E → ws.length = 2 := by rintro _ _ _ _ ⟨a, n, x, rfl, _⟩; rfl
theorem d_L_folk {g : Gc} (T : Txt g) : Df g 2 "_law_folk" ["_law_pot_here", "_law_names_here"] spFo := by
  refine df_of (k := 1) (i := i_L_folk) T.p_L_folk T.sy sc_L_folk ok_L_folk (fun _ _ _ _ _ _ us hl => match us, hl with | [_, _], _ => rfl) ?_ (fun Y ws M Q E F hE h => ?_)
  · exact spFo_len
  · obtain ⟨a, n, x, rfl, ⟨zs, rfl, hl, hz⟩, hn, hp, h⟩ := h
    refine ⟨_, (ss_one (s_ret (q_frzD (q_callT F 0 (c_dictP F) T.n_dict (by decide +kernel) (a_cons (q_lc (own := [("_law_name_here", 2)]) F ⟨_, ["_law_pot_here", "_law_names_here", "_law_name_here"], [2, 0], [2], [], ["_law_take"], false, true⟩ (.one 2) ⟨rfl, rfl, ⟨rfl, by decide +kernel, by decide +kernel, by decide +kernel, by decide +kernel⟩, by decide +kernel, by decide +kernel, rfl, rfl⟩ (by decide) (i_lst (q_var F 1)) (fun _ F hw => ⟨(pgN F 2), (ts_one (t_cmp o_gt (q_callW hw F 0 (d_L_take T) (a_cons (q_var F 0) (a_cons q_int a_nil))) q_int)), (q_tup (a_cons (q_var F 2) (a_cons (q_callW hw F 0 (d_L_take T) (a_cons (q_var F 0) (a_cons q_int a_nil))) a_nil)))⟩)) a_nil))))), ?_⟩
    refine lcDrawF (jt := 2) (ws := (zs.map PyData.str).map W.d) a n 2 PrX (by rw [List.length_map, List.length_map]; omega) (fun _ => trivial) hp ?_ ?_
    · intro j w hw
      obtain ⟨d, rfl, hd⟩ := getElem?_mapd hw
      rw [List.getElem?_map] at hd
      obtain ⟨z, hzj, rfl⟩ := Option.map_eq_some_iff.mp hd
      have hj : j < 4 := by
        have := (List.getElem?_eq_some_iff.mp hzj).1
        omega
      intro M2 p2 o2 RF RT hF hT
      refine ⟨a, _, 3, rfl, by decide, by decide, by omega, p2, fun r M3 r0 r1 p3 o3 => ?_⟩
      dsimp only [tK, rInt0]
      by_cases hr : (0 : Int) < r
      · refine bqc true (decide_eq_true hr) ?_
        refine iteT ?_
        refine ⟨a, _, 5, rfl, by decide, by decide, by omega, p3, fun r2 M4 r20 r21 p4 o4 => ?_⟩
        exact ⟨sm2, hT _ M4 ⟨z, r2, rfl, hz z (List.mem_of_getElem? hzj), r20, by omega⟩ (p4.mono (by omega)) (o3.trans o4)⟩
      · refine bqc false (decide_eq_false hr) ?_
        refine iteF ?_
        exact hF M3 (p3.mono (by omega)) o3
    · intro ds M3 hl3 hd p3 o3
      obtain ⟨f, rfl, f1, f2, f3⟩ := prx_list hd
      refine ⟨fkD f, rfl, fun p np => ?_⟩
      have e : sPuts [] ((fkD f).map fun q => (q.1, W.d q.2)) = (fkD (sPuts [] f)).map fun q => (q.1, W.d q.2) := by
        unfold fkD
        rw [List.map_map, List.map_map]
        exact sPuts_map (fun n : Int => W.d (.int n)) f []
      simp only [List.length_map, hl] at hl3 p3
      have hm : ∀ q ∈ sPuts [] f, q ∈ f := fun q hq => by
        rcases sPuts_mem hq with h | h
        · exact nomatch h
        · exact h
      have hlen := sPuts_len f []
      rw [List.length_nil] at hlen
      refine ⟨p, fkD (sPuts [] f), rfl, by rw [e, mset_same], ?_⟩
      rw [mdel_mset np]
      exact h _ M3 ⟨fun q hq => f1 q (hm q hq), fun q hq => f2 q (hm q hq), by unfold fkD at hl3; rw [List.length_map] at hl3; omega⟩ (p3.mono (by omega)) o3
end Ms
set_option Elab.async false
set_option linter.all false
set_option maxRecDepth 100000
set_option maxHeartbeats 2000000
namespace Ms
open PySem PySem.Spec PyProof.Rows L2 Dl
/-- answers drawn -/
structure TkX (t : TK) : Prop where
  a : AnsT t
  k : ∀ q ∈ t, ∃ z i, q.1 = kk z i ∧ isNameS z = true ∧ 0 ≤ i ∧ i ≤ 4
theorem nPut_tk (t : TK) (k : NestedKey) (d : PyData) : ∃ t' : TK, nPut (tkW t) k (.d d) = tkW t' ∧ t'.length ≤ t.length + 1 ∧ ∀ q ∈ t', q ∈ t ∨ q = (k, d) := by
  unfold nPut
  split
  · refine ⟨t.map fun q => if q.1 = k then (q.1, d) else q, ?_, by rw [List.length_map]; omega, fun q hq => ?_⟩
    · unfold tkW
      rw [List.map_map, List.map_map]
      apply List.map_congr_left
      intro q _
      simp only [Function.comp]
      split <;> rfl
    · obtain ⟨x, hx, rfl⟩ := List.mem_map.mp hq
      split
      · rename_i e
        exact .inr (by rw [e])
      · exact .inl hx
  · refine ⟨t ++ [(k, d)], by unfold tkW; rw [List.map_append]; rfl, by simp, fun q hq => ?_⟩
    rcases List.mem_append.mp hq with h | h
    · exact .inl h
    · exact .inr (List.mem_singleton.mp h)
def spTa (g : Gc) : SpD := fun ws M Q _ => ∃ (a : Addr) (n : Nat) (x : PyData), ws = [.ref a, .d x] ∧ Nms x ∧ n + 60 ≤ lots ∧ Pot a n M ∧
  ∀ p t M', M p = none → TkX t → t.length ≤ 6 → M' p = some (.dN g.P g.w (tkW t)) → Pot a (n + 60) M' → Oth a M M' → Q (.ref p) M'
theorem spTa_len {g : Gc} : ∀ ws M Q E, spTa g ws M Q E → ws.length = 2 := by rintro _ _ _ _ ⟨a, n, x, rfl, _⟩; rfl
theorem d_L_taken {g : Gc} (T : Txt g) : Df g 2 "_law_taken" ["_law_pot_here", "_law_names_here"] (spTa g) := by
  refine df_of (k := 1) (i := i_L_taken) T.p_L_taken T.sy sc_L_taken ok_L_taken (fun _ _ _ _ _ _ us hl => match us, hl with | [_, _], _ => rfl) ?_ (fun Y ws M Q E F hE h => ?_)
  · exact spTa_len
  · obtain ⟨a, n, x, rfl, ⟨zs, rfl, hl, hz⟩, hn, hp, h⟩ := h
    refine ⟨_, (ss_cons (s_set (q_nnew F) (g_name F 2)) (ss_cons (s_for F (i_lst (q_bin o_add (q_var F 1) (q_sl (q_var F 1) o_no (o_sm q_int)))) (g_name F 3) (ss_cons (s_set (q_ix (q_lst (a_cons q_int (a_cons q_int (a_cons (q_bin o_add q_int (q_call F 0 (d_L_take T) (a_cons (q_var F 0) (a_cons q_int a_nil)))) a_nil)))) (q_call F 0 (d_L_take T) (a_cons (q_var F 0) (a_cons q_int a_nil)))) (g_name F 4)) (ss_cons (s_set (q_call F 0 (d_L_take T) (a_cons (q_var F 0) (a_cons q_int a_nil))) (g_name F 5)) (ss_cons (s_set (q_callT F 1 c_tup T.n_tuple (by decide +kernel) (a_cons (q_lc (own := [("_law_option", 8)]) F ⟨_, ["_law_pot_here", "_law_names_here", "_law_found", "_law_name_here", "_law_someone", "_law_way", "_law_some", "_law_number", "_law_option"], [8, 0], [8], [], ["_law_take"], false, true⟩ (.one 8) ⟨rfl, rfl, ⟨rfl, by decide +kernel, by decide +kernel, by decide +kernel, by decide +kernel⟩, by decide +kernel, by decide +kernel, rfl, rfl⟩ (by decide) (i_lst (q_var F 1)) (fun _ F hw => ⟨(pgN F 8), (ts_one (t_cmp (o_eq F) (q_callW hw F 0 (d_L_take T) (a_cons (q_var F 0) (a_cons q_int a_nil))) q_int)), (q_var F 8)⟩)) a_nil)) (g_name F 6)) (ss_cons (s_set (q_ix (q_lst (a_cons q_int (a_cons q_int (a_cons q_int (a_cons q_int (a_cons (q_bin o_pow q_int q_int) (a_cons (q_call F 0 (d_L_take T) (a_cons (q_var F 0) (a_cons (q_bin o_add (q_bin o_pow q_int q_int) q_int) a_nil))) a_nil))))))) (q_call F 0 (d_L_take T) (a_cons (q_var F 0) (a_cons q_int a_nil)))) (g_name F 7)) (ss_one (s_if (t_cmp o_gt (q_var F 5) q_int) (ss_one (s_set (q_ix (q_lst (a_cons (q_ix (q_var F 1) (q_call F 0 (d_L_take T) (a_cons (q_var F 0) (a_cons (q_callB F 2 c_len T.n_len (by decide +kernel) (a_cons (q_var F 1) a_nil)) a_nil)))) (a_cons (q_var F 6) (a_cons (q_var F 7) a_nil)))) (q_bin o_sub (q_var F 5) q_int)) (g_nput F (q_var F 2) (q_tup (a_cons (q_var F 3) (a_cons (q_var F 4) a_nil)))))) ss_nil))))))) (ss_one (s_ret (q_var F 2))))), ?_⟩
    intro p np
    dsimp only [gNam]
    have hap : a ≠ p := hp.ne np
    have ec : cut (zs.map PyData.str) none (some 2) = (zs.take 2).map PyData.str := by rw [show cut (zs.map PyData.str) none (some 2) = (zs.map PyData.str).take 2 from cut_to _ 2, List.map_take]
    have l6 : (zs.map PyData.str ++ (zs.take 2).map PyData.str).length ≤ 6 := by
      rw [List.length_append, List.length_map, List.length_map, List.length_take]
      omega
    have l4 : (zs.map PyData.str).length = 4 := by rw [List.length_map, hl]
    have q1 : (1 : Int) ≤ ((zs.map PyData.str).length : Int) := by rw [l4]; decide
    have q2 : ((zs.map PyData.str).length : Int).natAbs < 2 ^ 2000 := by rw [l4]; decide
    refine ⟨by rw [ec]; exact small_of (by rw [List.length_map, List.length_map, List.length_take]; omega), ?_⟩
    rw [ec]
    refine ⟨fun j σ M' => ∃ t x3 x4 x5 x6 x7 x8, σ = [some (.ref a), some (.d (.list (zs.map PyData.str))), some (.ref p), x3, x4, x5, x6, x7, x8] ∧ TkX t ∧ t.length ≤ j ∧ M' p = some (.dN g.P g.w (tkW t)) ∧ Pot a (n + 10 * j) M' ∧ Oth a M M', ?_, fun _ _ _ _ => trivial, ?_, ?_⟩
    · refine ⟨[], none, none, none, none, none, none, rfl, ⟨(fun q h => nomatch h), (fun q h => nomatch h)⟩, Nat.le_refl _, mset_same, (hp.mono (by omega)).of (mset_ne hap), fun b o nb e => ?_⟩
      rw [mset_ne (by rintro rfl; rw [np] at e; cases e)]
      exact e
    · rintro j w σ M1 hj ⟨t, x3, x4, x5, x6, x7, x8, rfl, tx, tl, hm, p1, o1⟩
      obtain ⟨d, rfl, hd⟩ := getElem?_mapd hj
      have hj6 : j < 6 := by
        have := (List.getElem?_eq_some_iff.mp hd).1
        omega
      obtain ⟨z, rfl, nz⟩ : ∃ z, d = .str z ∧ isNameS z = true := by
        have := List.mem_of_getElem? hd
        rcases List.mem_append.mp this with h | h
        · obtain ⟨z, h1, rfl⟩ := List.mem_map.mp h
          exact ⟨z, rfl, hz z h1⟩
        · obtain ⟨z, h1, rfl⟩ := List.mem_map.mp h
          exact ⟨z, rfl, hz z (List.mem_of_mem_take h1)⟩
      dsimp only [gNam]
      refine ⟨a, _, 4, rfl, by decide, by decide, by omega, p1, fun r M2 r0 r1 p2 o2 => ⟨sm3, ?_⟩⟩
      refine ⟨a, _, 3, rfl, by decide, by decide, by omega, p2, fun r2 M3 r20 r21 p3 o3 => ?_⟩
      obtain ⟨y, hy, hym⟩ := atI_mem (xs := [PyData.int 0, .int 0, .int (1 + r)]) r20 r21
      obtain ⟨s, rfl, s0, s4⟩ : ∃ s : Int, y = .int s ∧ 0 ≤ s ∧ s ≤ 4 := by
        simp only [List.mem_cons, List.not_mem_nil, or_false] at hym
        rcases hym with rfl | rfl | rfl <;> exact ⟨_, rfl, by omega, by omega⟩
      refine ⟨_, hy, ?_⟩
      dsimp only [gNam]
      refine ⟨a, _, 4, rfl, by decide, by decide, by omega, p3, fun way M4 w0 w4 p4 o4 => ?_⟩
      dsimp only [gNam]
      refine lcDrawF (jt := 8) (ws := (zs.map PyData.str).map W.d) a _ 1 (fun x => ∃ z, x = .str z ∧ isNameS z = true) (by simp; omega) (fun _ => trivial) p4 ?_ ?_
      · intro i w hw
        obtain ⟨d, rfl, hd⟩ := getElem?_mapd hw
        rw [List.getElem?_map] at hd
        obtain ⟨z2, hzj, rfl⟩ := Option.map_eq_some_iff.mp hd
        have hi : i < 4 := by
          have := (List.getElem?_eq_some_iff.mp hzj).1
          omega
        intro M5 p5 o5 RF RT hF hT
        refine ⟨a, _, 2, rfl, by decide, by decide, by omega, p5, fun r5 M6 _ _ p6 o6 => ?_⟩
        dsimp only [tK]
        refine ⟨by simp [eqOk, PyData.canLay0, PyData.depth], ?_⟩
        cases hb : PyData.eqv (.int r5) (.int 0) with
        | true =>
          refine bqc true rfl ?_
          refine iteT ?_
          exact hT _ M6 ⟨z2, rfl, hz z2 (List.mem_of_getElem? hzj)⟩ (p6.mono (by omega)) o6
        | false =>
          refine bqc false rfl ?_
          refine iteF ?_
          exact hF M6 (p6.mono (by omega)) o6
      intro ds M5 hl5 hds p5 o5
      obtain ⟨os, rfl, hos⟩ : ∃ os : List Str, ds = os.map PyData.str ∧ ∀ z ∈ os, isNameS z = true := by
        clear hl5 p5 o5
        induction ds with
        | nil => exact ⟨[], rfl, fun z h => nomatch h⟩
        | cons d ds ih =>
          obtain ⟨os, rfl, ho⟩ := ih fun x hx => hds x (List.mem_cons_of_mem _ hx)
          obtain ⟨z3, rfl, h3⟩ := hds d List.mem_cons_self
          refine ⟨z3 :: os, rfl, fun q hq => ?_⟩
          rcases List.mem_cons.mp hq with rfl | hq
          · exact h3
          · exact ho q hq
      simp only [List.length_map, hl] at hl5 p5
      dsimp only [gNam]
      have p6 : powOk 10 6 := powOk_of (n := 4) (by decide) (by decide) (by decide)
      refine ⟨p6, p6, a, _, 1000001, rfl, by decide, by decide, by omega, p5, fun v M6 v0 v1 p6' o6 => ⟨sm6, ?_⟩⟩
      refine ⟨a, _, 6, rfl, by decide, by decide, by omega, p6', fun r7 M7 r70 r71 p7 o7 => ?_⟩
      obtain ⟨y, hy, hym⟩ := atI_mem (xs := [PyData.int 0, .int 1, .int 2, .int 3, .int 1000000, .int v]) r70 r71
      obtain ⟨m, rfl, m0, m1⟩ : ∃ m : Int, y = .int m ∧ 0 ≤ m ∧ m ≤ 1000000 := by
        simp only [List.mem_cons, List.not_mem_nil, or_false] at hym
        rcases hym with rfl | rfl | rfl | rfl | rfl | rfl <;> exact ⟨_, rfl, by omega, by omega⟩
      refine ⟨_, hy, ?_⟩
      dsimp only [gNam]
      have o17 := (((((o1.trans o2).trans o3).trans o4).trans o5).trans o6).trans o7
      have hm7 : M7 p = some (.dN g.P g.w (tkW t)) := o7 _ _ (fun e => hap e.symm) (o6 _ _ (fun e => hap e.symm) (o5 _ _ (fun e => hap e.symm) (o4 _ _ (fun e => hap e.symm) (o3 _ _ (fun e => hap e.symm) (o2 _ _ (fun e => hap e.symm) hm)))))
      refine ifD (fun hw => ?_) (fun hw => ?_)
      · have hw : (0 : Int) < way := hw
        refine ⟨a, _, _, rfl, q1, q2, by omega, p7, fun r8 M8 r80 r81 p8 o8 => ?_⟩
        obtain ⟨u, e8, nu⟩ := nms_get hl hz r80 r81
        refine ⟨_, e8, sm3, ?_⟩
        obtain ⟨dv, hdv, hdm⟩ := atI_mem (xs := [PyData.str u, .tuple (os.map PyData.str), .int m]) (show 0 ≤ way - 1 by omega) (show way - 1 < 3 by omega)
        have av : AnsV dv := by
          simp only [List.mem_cons, List.not_mem_nil, or_false] at hdm
          rcases hdm with rfl | rfl | rfl
          · exact .str nu
          · exact .tup (by omega) hos
          · exact .int m0 m1
        have hm8 : M8 p = some (.dN g.P g.w (tkW t)) := o8 _ _ (fun e => hap e.symm) hm7
        have hjl : j < 6 := hj6
        refine ⟨dv, hdv, sm2, _, kk z s, hm8, (kk_data z s).symm, rfl, kk_depth z s, ?_, ?_⟩
        · unfold tkW
          rw [List.length_map, sizeLine_eq]
          omega
        obtain ⟨t', et, lt, ht⟩ := nPut_tk t (kk z s) dv
        rw [et]
        refine ⟨t', _, _, _, _, _, _, rfl, ⟨fun q hq => ?_, fun q hq => ?_⟩, by omega, mset_same, (p8.mono (by omega)).of (mset_ne hap), ?_⟩
        · rcases ht q hq with h1 | rfl
          · exact tx.a q h1
          · exact av
        · rcases ht q hq with h1 | rfl
          · exact tx.k q h1
          · exact ⟨z, s, rfl, nz, s0, s4⟩
        · intro b o nb e
          rw [mset_ne (by rintro rfl; rw [np] at e; cases e)]
          exact o8 _ _ nb (o17 _ _ nb e)
      · exact ⟨t, _, _, _, _, _, _, rfl, tx, by omega, hm7, p7.mono (by omega), o17⟩
    · rintro σ M1 ⟨t, x3, x4, x5, x6, x7, x8, rfl, tx, tl, hm, p1, o1⟩
      rw [List.length_map] at tl p1
      exact h p t M1 np tx (by omega) hm (p1.mono (by omega)) o1
end Ms
set_option Elab.async false
set_option linter.all false
set_option maxRecDepth 100000
set_option maxHeartbeats 2000000
namespace Ms
open PySem PySem.Spec PyProof.Rows L2 Dl
theorem piece_px {w n : Str} {y : PyData} (h : isPiece w [.str n, y] = true) : PieceX (.tuple [.str w, .str n, y]) := by
  obtain ⟨hn, h⟩ := piece_cases h
  refine piece_is hn ?_
  rcases h with ⟨z, hw, rfl, hz⟩ | ⟨m, hw, rfl, m0, m1⟩
  · exact .inl ⟨by rcases hw with rfl | rfl <;> decide +kernel, z, rfl, hz⟩
  · exact .inr ⟨by rcases hw with rfl | rfl <;> decide +kernel, m, rfl, m0, m1⟩
theorem cnv_x {d : Nat} {wi : Bool} {c : Cn} (h : CnV d wi c) : CondX d (pcN c) wi (cnD c) ∧ 1 ≤ pcN c := by
  induction h with
  | @pc d wi w n y hp =>
    rw [pcN, cnD]
    exact ⟨cond_piece (piece_px hp) d wi, Nat.le_refl _⟩
  | @nt d wi c hc ih =>
    rw [pcN, cnD]
    exact ⟨cond_not ih.1 ih.2, ih.2⟩
  | @an d w n c hw hn hc ih =>
    rw [pcN, cnD]
    exact ⟨cond_any (by rcases hw with rfl | rfl <;> decide +kernel) hn ih.1 ih.2, ih.2⟩
  | @jn d wi w cs hw h2 h6 hc ih =>
    have e1 : (cs.map fun c => (cnD c, pcN c)).map (·.1) = cs.map cnD := by rw [List.map_map]; rfl
    have e2 : (cs.map fun c => (cnD c, pcN c)).map (·.2) = cs.map pcN := by rw [List.map_map]; rfl
    have z := cond_join (d := d) (w := wi) (t := w) (by rcases hw with rfl | rfl <;> decide +kernel) (qs := cs.map fun c => (cnD c, pcN c)) (by rw [List.length_map]; exact h2) (by rw [List.length_map]; exact h6) (fun q hq => by
      obtain ⟨c, hm, rfl⟩ := List.mem_map.mp hq
      exact ih c hm)
    rw [e1, e2] at z
    rw [pcN, pcNs_sum, cnD, cnDs_map]
    refine ⟨z, ?_⟩
    match cs, h2, ih with
    | c :: r, _, ih =>
      have := (ih c List.mem_cons_self).2
      simp only [List.map_cons, List.sum_cons]
      omega
theorem cnv_okT {d : Nat} {wi : Bool} {c : Cn} (h : CnV d wi c) (hd : d ≤ 7) (hp : pcN c ≤ 30) : okT (cnD c) ∧ showOk (cnD c) := by
  have f := (cnv_x h).1.f
  have w : pcN c * (250 + 30 * d) ≤ 30 * 460 := Nat.mul_le_mul hp (by omega)
  exact ⟨⟨okL_mono (by decide) _ f.o, Nat.le_trans f.w (by omega)⟩, f.show (by decide) (by omega) (by omega)⟩
/-! ### sizes -/
structure Sh (w d : Nat) (x : PyData) : Prop where
  s : x.showable = true
  l : x.leavesShort 199 = true
  w : x.weight ≤ w
  d : x.depth ≤ d
theorem Sh.of {B w d : Nat} {x : PyData} (h : Fn B w d x) (hB : B ≤ 2 ^ 198) : Sh w d x := ⟨(okL_show hB x h.o).1, (okL_show hB x h.o).2, h.w, h.d⟩
theorem Sh.ok {w d : Nat} {x : PyData} (h : Sh w d x) (hw : w ≤ 80000) (hd : d ≤ 100) : showOk x := by
  refine ⟨h.s, ?_, Nat.le_trans h.d hd⟩
  have e := PyData.shown_le 199 (by decide) x h.l
  have : (199 + 2) * x.weight ≤ 201 * 80000 := Nat.mul_le_mul_left _ (Nat.le_trans h.w hw)
  rw [sizeLine_eq]
  omega
theorem Sh.kv {w1 w2 d : Nat} : ∀ {kvs : List (PyData × PyData)}, (∀ q ∈ kvs, Sh w1 d q.1 ∧ Sh w2 d q.2) → PyData.showableKv kvs = true ∧ PyData.leavesShortKv 199 kvs = true ∧ PyData.weightKv kvs ≤ kvs.length * (w1 + w2 + 2) ∧ PyData.depthKv kvs ≤ d
  | [], _ => ⟨rfl, rfl, Nat.zero_le _, Nat.zero_le _⟩
  | (k, v) :: r, h => by
    obtain ⟨a, b⟩ := h (k, v) List.mem_cons_self
    obtain ⟨h1, h2, h3, h4⟩ := Sh.kv fun q hq => h q (List.mem_cons_of_mem _ hq)
    refine ⟨by simp [PyData.showableKv, a.s, b.s, h1], by simp [PyData.leavesShortKv, a.l, b.l, h2], ?_, ?_⟩
    · simp only [PyData.weightKv, List.length_cons]
      have ha : k.weight ≤ w1 := a.w
      have hb : v.weight ≤ w2 := b.w
      rw [Nat.add_mul]
      omega
    · simp only [PyData.depthKv]
      have ha : k.depth ≤ d := a.d
      have hb : v.depth ≤ d := b.d
      omega
theorem Sh.dict {w1 w2 d : Nat} {kvs : List (PyData × PyData)} (h : ∀ q ∈ kvs, Sh w1 d q.1 ∧ Sh w2 d q.2) : Sh (kvs.length * (w1 + w2 + 2)) (d + 1) (.dict kvs) := by
  obtain ⟨h1, h2, h3, h4⟩ := Sh.kv h
  exact ⟨h1, h2, h3, by simp only [PyData.depth]; omega⟩
theorem Sh.tup3 {w1 w2 w3 d1 d2 d3 : Nat} {x y z : PyData} (a : Sh w1 d1 x) (b : Sh w2 d2 y) (c : Sh w3 d3 z) : Sh (w1 + w2 + w3 + 3) (d1 + d2 + d3 + 1) (.tuple [x, y, z]) := by
  refine ⟨by simp [PyData.showable, PyData.showableAll, a.s, b.s, c.s], by simp [PyData.leavesShort, PyData.leavesShortAll, a.l, b.l, c.l], ?_, ?_⟩
  · simp only [PyData.weight, PyData.weightAll]
    have := a.w
    have := b.w
    have := c.w
    omega
  · simp only [PyData.depth, PyData.depthAll]
    have := a.d
    have := b.d
    have := c.d
    omega
theorem ans_sh {x : PyData} (h : AnsV x) : Sh 200 1 x := by
  cases h with
  | @str z hz => exact Sh.of ((show Fn B1 8 0 (.str z) from Fn.strW (name_sok hz) (name_len8 hz)).mono (Nat.le_refl _) (by decide) (by decide)) (by decide)
  | @tup zs hl hz =>
    have f : ∀ l : List Str, (∀ z ∈ l, isNameS z = true) → FnA B1 (l.length * 9) 0 (l.map PyData.str) := by
      intro l
      induction l with
      | nil => exact fun _ => .nil
      | cons z l ih =>
        intro h
        have a : Fn B1 8 0 (.str z) := Fn.strW (name_sok (h z List.mem_cons_self)) (name_len8 (h z List.mem_cons_self))
        exact ((FnA.one a).app (ih fun x hx => h x (List.mem_cons_of_mem _ hx))).mono (Nat.le_refl _) (by rw [List.length_cons, Nat.add_mul]; omega) (Nat.le_refl _)
    exact Sh.of ((f zs hz).tup.mono (Nat.le_refl _) (by omega) (by decide)) (by decide)
  | int h0 h1 => exact Sh.of ((Fn.int (B := B1) (w := 198) (d := 0) (b1_ofN h0 h1) (by decide) (by decide)).mono (Nat.le_refl _) (by decide) (by decide)) (by decide)
theorem key_sh {z : Str} {i : Int} (hz : isNameS z = true) (h0 : 0 ≤ i) (h4 : i ≤ 4) : Sh 300 1 (kk z i).data := by
  rw [kk_data]
  have a : Fn B1 8 0 (.str z) := Fn.strW (name_sok hz) (name_len8 hz)
  have b : Fn B1 198 0 (.int i) := Fn.int (b1_ofN h0 (by omega)) (by decide) (Nat.le_refl _)
  exact Sh.of (((FnA.one (a.mono (Nat.le_refl _) (Nat.le_refl _) (Nat.le_refl _))).app (FnA.one b)).tup.mono (Nat.le_refl _) (by decide) (by decide)) (by decide)
/-- what is shown -/
def tkD (t : TK) : List (PyData × PyData) := ((tkW t).map fun q => q.1.data).zip (t.map (·.2))
theorem tkD_eq (t : TK) : tkD t = t.map fun q => (q.1.data, q.2) := by
  unfold tkD tkW
  induction t with
  | nil => rfl
  | cons q r ih =>
    rw [List.map_cons, List.map_cons, List.map_cons, List.zip_cons_cons, ih]
    rfl
def shD (c : Cn) (t : TK) (f : FK) : PyData := .tuple [cnD c, .dict (tkD t), sdD (fkD f)]
theorem shD_ok {c : Cn} {t : TK} {f : FK} (hv : CnV 6 false c) (hn : pcN c ≤ 30) (tx : TkX t) (tl : t.length ≤ 6) (fx : FkX f) : showOk (shD c t f) := by
  have a := Sh.of (cnv_x hv).1.f (by decide)
  have wa : pcN c * (250 + 30 * 6) ≤ 30 * 430 := Nat.mul_le_mul hn (by omega)
  have b : Sh ((tkD t).length * (300 + 200 + 2)) 2 (.dict (tkD t)) := Sh.dict fun q hq => by
    rw [tkD_eq] at hq
    obtain ⟨y, hy, rfl⟩ := List.mem_map.mp hq
    obtain ⟨z, i, e, nz, i0, i4⟩ := tx.k y hy
    refine ⟨?_, ans_sh (tx.a y hy)⟩
    show Sh 300 1 y.1.data
    rw [e]
    exact key_sh nz i0 i4
  have d : Sh ((sdE (fkD f)).length * (8 + 198 + 2)) 1 (sdD (fkD f)) := Sh.dict fun q hq => by
    unfold sdE fkD at hq
    rw [List.map_map] at hq
    obtain ⟨y, hy, rfl⟩ := List.mem_map.mp hq
    obtain ⟨n0, n4⟩ := fx.o y hy
    exact ⟨Sh.of (Fn.strW (B := B1) (name_sok (fx.n y hy)) (name_len8 (fx.n y hy))) (by decide), Sh.of (Fn.int (B := B1) (b1_ofN n0 (by omega)) (by decide) (Nat.le_refl _)) (by decide)⟩
  have lb : (tkD t).length ≤ 6 := by rw [tkD_eq, List.length_map]; exact tl
  have ld : (sdE (fkD f)).length ≤ 4 := by
    unfold sdE fkD
    rw [List.length_map, List.length_map]
    exact fx.l
  have wb : (tkD t).length * (300 + 200 + 2) ≤ 6 * 502 := Nat.mul_le_mul_right _ lb
  have wd : (sdE (fkD f)).length * (8 + 198 + 2) ≤ 4 * 208 := Nat.mul_le_mul_right _ ld
  exact (a.tup3 b d).ok (by omega) (by omega)
theorem seenA_tk {P : Program} {w : World} {M : MH} : ∀ t : TK, SeenA P w M ((tkW t).map (·.2)) (t.map (·.2))
  | [] => .nil
  | q :: r => .cons (.d q.2) (seenA_tk r)
theorem seen_sh {P : Program} {w : World} {M : MH} {p b : Addr} {c : Cn} {t : TK} {f : FK} (hp : M p = some (.tup [.d (cnD c), .ref b, .d (sdD (fkD f))])) (hb : M b = some (.dN P w (tkW t))) : Seen P w M (.ref p) (shD c t f) :=
  .tup hp (.cons (.d _) (.cons (.dN hb (seenA_tk t)) (.cons (.d _) .nil)))
/-! ### told by places, by names -/
def dueP (way p : Int) : Int := if way < 3 then p else 0
def dueF (way : Int) (f : FK) : FK := if way = 0 ∨ way = 1 ∨ way = 3 then f else []
def spTo (g : Gc) : SpD := fun ws M Q _ => ∃ a way c t p f, ws = [.d (.int way), .d (cnD c), .ref a, .d (.int p), .d (sdD (fkD f))] ∧ 0 ≤ way ∧ way < 5 ∧ isCond (cnD c) = true ∧ CnV 6 false c ∧ pcN c ≤ 30 ∧ M a = some (.dN g.P g.w (tkW t)) ∧ AnsT t ∧ FkOk f ∧ Q (.d (.bool (Hc t (dueF way f) (dueP way p) c))) M
theorem spTo_len {g : Gc} : ∀ ws M Q E, spTo g ws M Q E → ws.length = 5 := by rintro _ _ _ _ ⟨a, way, c, t, p, f, rfl, _⟩; rfl
theorem way_cases {way : Int} (h0 : 0 ≤ way) (h5 : way < 5) : way = 0 ∨ way = 1 ∨ way = 2 ∨ way = 3 ∨ way = 4 := by omega
theorem fk_nil : FkOk [] := fun _ h => nomatch h
theorem d_L_told {g : Gc} (T : Txt g) : Df g 21 "_law_told" ["_law_way", "_law_condition_here", "_law_taken_here", "_law_someone", "_law_house"] (spTo g) := by
  refine df_of (k := 20) (i := i_L_told) T.p_L_told T.sy sc_L_told ok_L_told (fun _ _ _ _ _ _ us hl => match us, hl with | [_, _, _, _, _], _ => rfl) ?_ (fun Y ws M Q E F hE h => ?_)
  · exact spTo_len
  · obtain ⟨a, way, c, t, p, f, rfl, w0, w5, hc, hv, hn, ha, hT, hF, h⟩ := h
    refine ⟨_, (ss_cons (s_if (t_cmp (o_eq F) (q_var F 0) q_int) (ss_one (s_ret (q_callD (n := 4) (ks := []) (sl := []) rfl F 0 (d_holds T) (fun _ _ _ _ _ _ _ us its ws h1 h2 h3 => match us, h1, its, h2, ws, h3 with | [_, _, _, _], _, [_, _], _, [], _ => ⟨_, rfl, rfl⟩) (a_cons (q_var F 1) (a_cons (q_var F 2) (a_cons (q_var F 3) (a_cons (q_var F 4) a_nil)))) qk_nil))) ss_nil) (ss_cons (s_if (t_cmp (o_eq F) (q_var F 0) q_int) (ss_one (s_ret (q_callD (n := 2) (ks := ["folk", "person"]) (sl := [(true, 1), (true, 0)]) rfl F 0 (d_holds T) (fun _ _ _ _ _ _ _ us its ws h1 h2 h3 => match us, h1, its, h2, ws, h3 with | [_, _], _, [_, _], _, [_, _], _ => ⟨_, rfl, rfl⟩) (a_cons (q_var F 1) (a_cons (q_var F 2) a_nil)) (qk_cons (q_var F 4) (qk_cons (q_var F 3) qk_nil))))) ss_nil) (ss_cons (s_if (t_cmp (o_eq F) (q_var F 0) q_int) (ss_one (s_ret (q_callD (n := 2) (ks := ["person"]) (sl := [(true, 0), (false, 1)]) rfl F 0 (d_holds T) (fun _ _ _ _ _ _ _ us its ws h1 h2 h3 => match us, h1, its, h2, ws, h3 with | [_, _], _, [_, _], _, [_], _ => ⟨_, rfl, rfl⟩) (a_cons (q_var F 1) (a_cons (q_var F 2) a_nil)) (qk_cons (q_var F 3) qk_nil)))) ss_nil) (ss_cons (s_if (t_cmp (o_eq F) (q_var F 0) q_int) (ss_one (s_ret (q_callD (n := 2) (ks := ["folk"]) (sl := [(false, 0), (true, 0)]) rfl F 0 (d_holds T) (fun _ _ _ _ _ _ _ us its ws h1 h2 h3 => match us, h1, its, h2, ws, h3 with | [_, _], _, [_, _], _, [_], _ => ⟨_, rfl, rfl⟩) (a_cons (q_var F 1) (a_cons (q_var F 2) a_nil)) (qk_cons (q_var F 4) qk_nil)))) ss_nil) (ss_one (s_ret (q_callD (n := 2) (ks := []) (sl := [(false, 0), (false, 1)]) rfl F 0 (d_holds T) (fun _ _ _ _ _ _ _ us its ws h1 h2 h3 => match us, h1, its, h2, ws, h3 with | [_, _], _, [_, _], _, [], _ => ⟨_, rfl, rfl⟩) (a_cons (q_var F 1) (a_cons (q_var F 2) a_nil)) qk_nil))))))), ?_⟩
    have ok := (cnv_okT hv (by decide) hn).1
    rcases way_cases w0 w5 with rfl | rfl | rfl | rfl | rfl
    · refine ⟨rfl, bqc true (by decide +kernel) (iteT ?_)⟩
      exact ⟨rfl, rfl, a, _, t, p, _, rfl, ok, ha, hT, .inr ⟨c, f, hc, rfl, hv, .inl rfl, hF, h⟩⟩
    · refine ⟨rfl, bqc false (by decide +kernel) (iteF ?_)⟩
      refine ⟨rfl, bqc true (by decide +kernel) (iteT ?_)⟩
      exact ⟨rfl, rfl, a, _, t, p, _, rfl, ok, ha, hT, .inr ⟨c, f, hc, rfl, hv, .inl rfl, hF, h⟩⟩
    · refine ⟨rfl, bqc false (by decide +kernel) (iteF ?_)⟩
      refine ⟨rfl, bqc false (by decide +kernel) (iteF ?_)⟩
      refine ⟨rfl, bqc true (by decide +kernel) (iteT ?_)⟩
      exact ⟨rfl, rfl, a, _, t, p, _, rfl, ok, ha, hT, .inr ⟨c, [], hc, rfl, hv, .inr ⟨rfl, rfl⟩, fk_nil, h⟩⟩
    · refine ⟨rfl, bqc false (by decide +kernel) (iteF ?_)⟩
      refine ⟨rfl, bqc false (by decide +kernel) (iteF ?_)⟩
      refine ⟨rfl, bqc false (by decide +kernel) (iteF ?_)⟩
      refine ⟨rfl, bqc true (by decide +kernel) (iteT ?_)⟩
      exact ⟨rfl, rfl, a, _, t, 0, _, rfl, ok, ha, hT, .inr ⟨c, f, hc, rfl, hv, .inl rfl, hF, h⟩⟩
    · refine ⟨rfl, bqc false (by decide +kernel) (iteF ?_)⟩
      refine ⟨rfl, bqc false (by decide +kernel) (iteF ?_)⟩
      refine ⟨rfl, bqc false (by decide +kernel) (iteF ?_)⟩
      refine ⟨rfl, bqc false (by decide +kernel) (iteF ?_)⟩
      exact ⟨rfl, rfl, a, _, t, 0, _, rfl, ok, ha, hT, .inr ⟨c, [], hc, rfl, hv, .inr ⟨rfl, rfl⟩, fk_nil, h⟩⟩
end Ms
set_option Elab.async false
set_option linter.all false
set_option maxRecDepth 100000
set_option maxHeartbeats 2000000
namespace Ms
open PySem PySem.Spec PyProof.Rows L2 Dl
theorem sm3' : small 3 := sm3
def spAR (g : Gc) : SpD := fun ws M Q _ => ∃ a b n c t f, ws = [.ref a, .d (cnD c), .ref b, .d (sdD (fkD f))] ∧ isCond (cnD c) = true ∧ CnV 6 false c ∧ pcN c ≤ 30 ∧ b ≠ a ∧ M b = some (.dN g.P g.w (tkW t)) ∧ TkX t ∧ t.length ≤ 6 ∧ FkX f ∧ n + 5 ≤ lots ∧ Pot a n M ∧ ∀ M', Pot a (n + 5) M' → Oth a M M' → Q (.d (.bool true)) M'
theorem spAR_len {g : Gc} : ∀ ws M Q E, spAR g ws M Q E → ws.length = 4 := by rintro _ _ _ _ ⟨a, b, n, c, t, f, rfl, _⟩; rfl
theorem oth_new {a p : Addr} {M M' : MH} {o : O} (h : Oth a M M') (np : M' p = none) : Oth a M (mset M' p o) := fun b u nb e => by
  have := h b u nb e
  rw [mset_ne (by rintro rfl; rw [np] at this; cases this)]
  exact this
theorem orF {t u : TTd} {σ : SD} {M : MH} {Q : Bool → MH → Prop} (h1 : ∀ R : Bool → MH → Prop, R false M → t σ M R) (h2 : u σ M Q) : Dl.tOrT t u σ M Q := by
  refine h1 _ ?_
  exact h2
theorem d_L_asked_right {g : Gc} (T : Txt g) : Df g 22 "_law_asked_right" ["_law_pot_here", "_law_condition_here", "_law_taken_here", "_law_house"] (spAR g) := by
  refine df_of (k := 21) (i := i_L_asked_right) T.p_L_asked_right T.sy sc_L_asked_right ok_L_asked_right (fun _ _ _ _ _ _ us hl => match us, hl with | [_, _, _, _], _ => rfl) ?_ (fun Y ws M Q E F hE h => ?_)
  · exact spAR_len
  · obtain ⟨a, b, n, c, t, f, rfl, hc, hv, hn, hba, hb, tx, tl, fx, hl, hp, h⟩ := h
    refine ⟨_, (ss_cons (s_for F (i_rng1 F 0 T.n_range (a_cons q_int a_nil)) (g_name F 4) (ss_cons (s_set (q_call F 1 (d_L_take T) (a_cons (q_var F 0) (a_cons q_int a_nil))) (g_name F 5)) (ss_cons (s_set (q_callB F 2 (c_reprM F) T.n_repr (by decide +kernel) (a_cons (q_tupM (a_cons (q_var F 1) (a_cons (q_var F 2) (a_cons (q_var F 3) a_nil)))) a_nil)) (g_name F 6)) (ss_cons (s_set (q_call F 3 (d_L_holds T 7) (a_cons (q_var F 1) (a_cons (q_var F 2) (a_cons (q_bin o_mul (q_var F 5) (q_callT F 5 c_int T.n_int (by decide +kernel) (a_cons (q_cmp o_lt (q_var F 4) q_int) a_nil))) (a_cons (q_ite (t_cmp (o_in F) (q_var F 4) (q_tup (a_cons q_int (a_cons q_int (a_cons q_int a_nil))))) (q_var F 3) q_dct0) a_nil))))) (g_name F 7)) (ss_one (s_for F (i_rng1 F 0 T.n_range (a_cons q_int a_nil)) (g_name F 8) (ss_cons (s_set (q_call F 4 (d_L_told T) (a_cons (q_var F 4) (a_cons (q_var F 1) (a_cons (q_var F 2) (a_cons (q_var F 5) (a_cons (q_var F 3) a_nil)))))) (g_name F 9)) (ss_one (s_if (QW.pt (w_or (t_not (t_val (q_isi F 6 7 isk_bool T.n_isinstance T.n_bool (by decide +kernel) (q_var F 9)))) (w_or (t_cmp (o_ne F) (q_var F 9) (q_var F 7)) (w_or1 (t_cmp (o_ne F) (q_callB F 2 (c_reprM F) T.n_repr (by decide +kernel) (a_cons (q_tupM (a_cons (q_var F 1) (a_cons (q_var F 2) (a_cons (q_var F 3) a_nil)))) a_nil)) (q_var F 6)))))) (ss_one (s_ret q_bool)) ss_nil))))))))) (ss_one (s_ret q_bool))), ?_⟩
    have sok := shD_ok hv hn tx tl fx
    refine ⟨⟨by decide, by decide⟩, fun j σ M' => ∃ x4 x5 x6 x7 x8 x9, σ = [some (.ref a), some (.d (cnD c)), some (.ref b), some (.d (sdD (fkD f))), x4, x5, x6, x7, x8, x9] ∧ M' b = some (.dN g.P g.w (tkW t)) ∧ Pot a (n + j) M' ∧ Oth a M M', ⟨_, _, _, _, _, _, rfl, hb, hp, Oth.refl _ _⟩, fun _ _ _ _ => trivial, ?_, ?_⟩
    · rintro j w σ M1 hj ⟨x4, x5, x6, x7, x8, x9, rfl, hb1, p1, o1⟩
      obtain ⟨hj', rfl⟩ := rng_get hj
      have hj5 : j < 5 := by omega
      obtain ⟨way, hway, w0, w5⟩ : ∃ way : Int, 0 + (j : Int) = way ∧ 0 ≤ way ∧ way < 5 := ⟨_, rfl, by omega, by omega⟩
      rw [hway]
      dsimp only [gNam]
      refine ⟨a, _, 5, rfl, by decide, by decide, by omega, p1, fun r M2 r0 r1 p2 o2 => ?_⟩
      have hb2 := o2 b _ hba hb1
      have o12 := o1.trans o2
      dsimp only [gNam]
      refine ⟨sm3, fun q nq => ?_⟩
      have hqa : a ≠ q := p2.ne nq
      have hqb : b ≠ q := by rintro rfl; rw [nq] at hb2; cases hb2
      have hb3 : (mset M2 q (.tup [.d (cnD c), .ref b, .d (sdD (fkD f))])) b = some (.dN g.P g.w (tkW t)) := by rw [mset_ne hqb]; exact hb2
      refine ⟨q, shD c t f, rfl, seen_sh mset_same hb3, sok, ?_⟩
      have p3 : Pot a (n + (j + 1)) (mset M2 q (.tup [.d (cnD c), .ref b, .d (sdD (fkD f))])) := (p2.mono (by omega)).of (mset_ne hqa)
      have o3 : Oth a M (mset M2 q (.tup [.d (cnD c), .ref b, .d (sdD (fkD f))])) := oth_new o12 nq
      dsimp only [gNam]
      generalize mset M2 q (.tup [.d (cnD c), .ref b, .d (sdD (fkD f))]) = M3 at hb3 p3 o3
      have mo : ∀ k : Int, k.natAbs < 2 ^ 1 → mulOk r k := fun k hk => mulOk_of (n := 3) (m := 1) (by decide) (by decide) (show r.natAbs < 2 ^ 3 by rw [show (2 : Nat) ^ 3 = 8 by decide]; omega) hk (by decide)
      refine sq_cut (fun σ M' => σ = [some (.ref a), some (.d (cnD c)), some (.ref b), some (.d (sdD (fkD f))), some (.d (.int way)), some (.d (.int r)), some (.d (.str (shD c t f).shown)), some (.d (.bool (Hc t (dueF way f) (dueP way r) c))), x8, x9] ∧ M' = M3) (fun N hN => ?_) ?_
      · clear p1 o1 hb1 p2 o2
        rcases way_cases w0 w5 with rfl | rfl | rfl | rfl | rfl
        · have e : Hc t f (r * 1) c = Hc t (dueF 0 f) (dueP 0 r) c := by rw [Int.mul_one]; rfl
          refine ⟨mo _ (by decide), sm3, by decide +kernel, bqc true (by decide +kernel) (iteT ?_)⟩
          refine ⟨b, t, 6, false, c, _, f, rfl, hv, by decide, hb3, tx.a, fx.o, ?_⟩
          exact hN _ _ ⟨by rw [← e]; rfl, rfl⟩
        · have e : Hc t f (r * 1) c = Hc t (dueF 1 f) (dueP 1 r) c := by rw [Int.mul_one]; rfl
          refine ⟨mo _ (by decide), sm3, by decide +kernel, bqc true (by decide +kernel) (iteT ?_)⟩
          refine ⟨b, t, 6, false, c, _, f, rfl, hv, by decide, hb3, tx.a, fx.o, ?_⟩
          exact hN _ _ ⟨by rw [← e]; rfl, rfl⟩
        · have e : Hc t [] (r * 1) c = Hc t (dueF 2 f) (dueP 2 r) c := by rw [Int.mul_one]; rfl
          refine ⟨mo _ (by decide), sm3, by decide +kernel, bqc false (by decide +kernel) (iteF ?_)⟩
          refine ⟨b, t, 6, false, c, _, [], rfl, hv, by decide, hb3, tx.a, fk_nil, ?_⟩
          exact hN _ _ ⟨by rw [← e]; rfl, rfl⟩
        · have e : Hc t f (r * 0) c = Hc t (dueF 3 f) (dueP 3 r) c := by rw [Int.mul_zero]; rfl
          refine ⟨mo _ (by decide), sm3, by decide +kernel, bqc true (by decide +kernel) (iteT ?_)⟩
          refine ⟨b, t, 6, false, c, _, f, rfl, hv, by decide, hb3, tx.a, fx.o, ?_⟩
          exact hN _ _ ⟨by rw [← e]; rfl, rfl⟩
        · have e : Hc t [] (r * 0) c = Hc t (dueF 4 f) (dueP 4 r) c := by rw [Int.mul_zero]; rfl
          refine ⟨mo _ (by decide), sm3, by decide +kernel, bqc false (by decide +kernel) (iteF ?_)⟩
          refine ⟨b, t, 6, false, c, _, [], rfl, hv, by decide, hb3, tx.a, fk_nil, ?_⟩
          exact hN _ _ ⟨by rw [← e]; rfl, rfl⟩
      rintro _ _ ⟨rfl, rfl⟩
      refine ⟨⟨by decide, by decide⟩, fun _ σ M' => ∃ x8 x9, σ = [some (.ref a), some (.d (cnD c)), some (.ref b), some (.d (sdD (fkD f))), some (.d (.int way)), some (.d (.int r)), some (.d (.str (shD c t f).shown)), some (.d (.bool (Hc t (dueF way f) (dueP way r) c))), x8, x9] ∧ M' b = some (.dN g.P g.w (tkW t)) ∧ Pot a (n + (j + 1)) M' ∧ Oth a M M', ⟨_, _, rfl, hb3, p3, o3⟩, fun _ _ _ _ => trivial, ?_, ?_⟩
      · rintro i w σ M4 hi ⟨x8, x9, rfl, hb4, p4, o4⟩
        dsimp only [gNam]
        refine ⟨b, way, c, t, r, f, rfl, w0, w5, hc, hv, hn, hb4, tx.a, fx.o, ?_⟩
        dsimp only [gNam]
        have ee : (!PyData.eqv (.bool (Hc t (dueF way f) (dueP way r) c)) (.bool (Hc t (dueF way f) (dueP way r) c))) = false := by simp [PyData.eqv]
        refine orF (fun R r => r) ?_
        refine orF (fun R r => ⟨by simp [neOk, PyData.canLay0, PyData.depth], show R (!PyData.eqv _ _) _ by rw [ee]; exact r⟩) ?_
        refine ⟨sm3, fun q2 nq2 => ?_⟩
        have hqa2 : a ≠ q2 := p4.ne nq2
        have hqb2 : b ≠ q2 := by rintro rfl; rw [nq2] at hb4; cases hb4
        have hb5 : (mset M4 q2 (.tup [.d (cnD c), .ref b, .d (sdD (fkD f))])) b = some (.dN g.P g.w (tkW t)) := by rw [mset_ne hqb2]; exact hb4
        refine ⟨q2, shD c t f, rfl, seen_sh mset_same hb5, sok, rfl, bqc false (by simp [PyData.eqv]) (iteF ?_)⟩
        exact ⟨_, _, rfl, hb5, p4.of (mset_ne hqa2), oth_new o4 nq2⟩
      · rintro σ M4 ⟨x8, x9, rfl, hb4, p4, o4⟩
        exact ⟨_, _, _, _, _, _, rfl, hb4, p4, o4⟩
    · rintro σ M1 ⟨x4, x5, x6, x7, x8, x9, rfl, hb1, p1, o1⟩
      exact h M1 p1 o1
end Ms
set_option Elab.async false
set_option linter.all false
set_option maxRecDepth 100000
set_option maxHeartbeats 4000000
namespace Ms
open PySem PySem.Spec PyProof.Rows L2 Dl
/-- a lambda called: it tells, or is refused with one class; nothing is changed by it -/
def spW (g : Gc) : LamT → MH → (W → MH → Prop) → XD → Prop := fun tl M Q _ => ∃ w : Str, (w = "told" ∨ w = "condition") ∧ (∀ N X, (w = "told" → ∀ x, N x M) → (w = "condition" → X (ecl g "NoCondition") none M) → tl N X M) ∧ ∀ M', Keep M M' → Q (.d (.str w)) M'
theorem nk {M M' : MH} {f : Addr} (k : Keep M M') (n : M' f = none) : M f = none := by
  cases e : M f with
  | none => rfl
  | some o => cases n.symm.trans (k _ _ e)
theorem d_L_word {g : Gc} (T : Txt g) : LamFn g 22 20 "_law_word" "_law_call" (spW g) := by
  refine lamfn_of (k := 21) (i := i_L_word) T.p_L_word T.sy sc_L_word ok_L_word rfl (fun _ _ _ _ _ _ us hl => match us, hl with | [_], _ => rfl) (fun Y {outer s H M lf tl} Q E F hE C A h => ?_)
  · obtain ⟨w, hw, tl', h⟩ := h
    refine ⟨_, (ss_cons (s_set q_none (g_name F 1)) (ss_cons (s_tryS rfl F 2 0 T.x_AskError (fun _ _ F hw WW => have C := C.within WW; (ss_one (s_expr (q_act hw F C A 0)))) (fun _ F hw => (ss_one (s_set (q_var F 2) (g_name F 1))))) (ss_cons (s_if (t_cmp o_is (q_var F 1) q_none) (ss_one (s_ret q_str)) ss_nil) (ss_cons (s_set (q_lst (a_cons (q_isx F 1 2 T.n_isinstance T.y_NoKind (q_var F 1)) (a_cons (q_isx F 1 3 T.n_isinstance T.y_NoValue (q_var F 1)) (a_cons (q_isx F 1 4 T.n_isinstance T.y_NoCondition (q_var F 1)) a_nil)))) (g_name F 3)) (ss_cons (s_set (q_lstM (a_cons (q_isxT F 1 T.n_isinstance (.cons 5 rfl (.cons 6 rfl (.cons 7 rfl (.cons 8 rfl (.cons 9 rfl (.cons 10 rfl (.cons 11 rfl (.cons 12 rfl .nil)))))))) (q_var F 1)) a_nil)) (g_name F 4)) (ss_cons (s_expr (q_met m_append (q_var F 4) (a_cons (q_isxT F 1 T.n_isinstance (.cons 13 rfl (.cons 14 rfl (.cons 15 rfl (.cons 16 rfl (.cons 17 rfl (.cons 18 rfl (.cons 19 rfl .nil))))))) (q_var F 1)) a_nil))) (ss_cons (s_expr (q_met m_append (q_var F 4) (a_cons (q_isxT F 1 T.n_isinstance (.cons 20 rfl (.cons 21 rfl (.cons 22 rfl (.cons 23 rfl (.cons 24 rfl (.cons 25 rfl (.cons 26 rfl .nil))))))) (q_var F 1)) a_nil))) (ss_cons (s_expr (q_met m_append (q_var F 4) (a_cons (q_isxT F 1 T.n_isinstance (.cons 27 rfl (.cons 28 rfl (.cons 29 rfl .nil))) (q_var F 1)) a_nil))) (ss_cons (s_if (QW.pt (w_or (t_cmp (o_ne F) (q_met (m_count F) (q_var F 3) (a_cons q_bool a_nil)) q_int) (w_or (t_cmp (o_in F) q_bool (q_var F 4)) (w_or1 (t_not (t_val (q_isx F 1 30 T.n_isinstance T.y_ValueError (q_var F 1)))))))) (ss_one (s_ret q_str)) ss_nil) (ss_one (s_ret (q_ix (q_lst (a_cons q_str (a_cons q_str (a_cons q_str a_nil)))) (q_met (m_index F) (q_var F 3) (a_cons q_bool a_nil)))))))))))))), ?_⟩
    rcases hw with rfl | rfl
    · refine ⟨rfl, tl' _ _ (fun _ x => ?_) (fun z => absurd z (by decide +kernel))⟩
      exact ifn_non rfl (h M (Keep.refl M))
    · obtain ⟨h_NoKind, h_NoValue, h_NoCondition, h_NoForm, h_NoKey, h_TooWide, h_Stuck, h_NoBook, h_Clash, h_Full, h_NoNames, h_NoEntry, h_NoCheck, h_Twice, h_NoLines, h_NoRound, h_NoWeights, h_NoTable, h_NoFits, h_NoTotals, h_NoCounts, h_NoPlaces, h_NoPlace, h_NoText, h_NoLine, h_CannotGo, h_NoRecord, h_NoFit, h_ValueError, _⟩ := T.b_NoCondition
      obtain ⟨D, eD, _, xD⟩ := T.e_NoCondition.ecl
      refine ⟨rfl, tl' _ _ (fun z => absurd z (by decide +kernel)) (fun _ => ⟨true, T.m_NoCondition_AskError, fun _ p np => ?_, fun z => nomatch z⟩)⟩
      dsimp only [gNam]
      have hp : mset M p (.exc (ecl g "NoCondition") none) p = some (.exc (ecl g "NoCondition") none) := mset_same
      have kk : Keep M (mset M p (.exc (ecl g "NoCondition") none)) := keep_new np
      generalize mset M p (.exc (ecl g "NoCondition") none) = M1 at hp kk ⊢
      refine asn_var (w := .ref p) rfl ?_
      refine ifn_ref (p := p) rfl ?_
      dsimp only [tNxt]
      refine sq_cut (fun σ M' => σ = [some (.ref lf), some (.ref p), none, some (.d (.list [PyData.bool false, PyData.bool false, PyData.bool true])), none] ∧ M1 = M') (fun N hN => ?_) ?_
      · exact ⟨p, _, _, rfl, hp, h_NoKind, p, _, _, rfl, hp, h_NoValue, p, _, _, rfl, hp, h_NoCondition, sm3, hN _ _ ⟨rfl, rfl⟩⟩
      rintro _ _ ⟨rfl, rfl⟩
      refine sq_cut (fun σ M' => ∃ f, σ = [some (.ref lf), some (.ref p), none, some (.d (.list [PyData.bool false, PyData.bool false, PyData.bool true])), some (.ref f)] ∧ M' f = some (.lst ([PyData.bool false].map W.d)) ∧ Keep M1 M' ∧ M1 f = none) (fun N hN => ?_) ?_
      · exact ⟨p, _, [false, false, false, false, false, false, false, false], rfl, hp, rfl, by decide, ⟨D, eD, xD⟩, isAll_sub T.b_NoCondition (by decide +kernel), sm1, fun f nf => hN _ _ ⟨f, rfl, mset_same, keep_new nf, nf⟩⟩
      rintro _ M2 ⟨f, rfl, g2, k2, nf⟩
      have hp2 := k2 _ _ hp
      refine sq_cut (fun σ M' => ∃ f, σ = [some (.ref lf), some (.ref p), none, some (.d (.list [PyData.bool false, PyData.bool false, PyData.bool true])), some (.ref f)] ∧ M' f = some (.lst ([PyData.bool false, PyData.bool false].map W.d)) ∧ Keep M1 M' ∧ M1 f = none) (fun N hN => ?_) ?_
      · exact ⟨⟨_, g2⟩, p, _, [false, false, false, false, false, false, false], rfl, hp2, rfl, by decide, ⟨D, eD, xD⟩, isAll_sub T.b_NoCondition (by decide +kernel), _, g2, by rw [sizeLine_eq]; decide, hN _ _ ⟨f, rfl, mset_same, keep_put k2 nf, nf⟩⟩
      rintro _ M3 ⟨f, rfl, g3, k3, nf⟩
      have hp3 := k3 _ _ hp
      refine sq_cut (fun σ M' => ∃ f, σ = [some (.ref lf), some (.ref p), none, some (.d (.list [PyData.bool false, PyData.bool false, PyData.bool true])), some (.ref f)] ∧ M' f = some (.lst ([PyData.bool false, PyData.bool false, PyData.bool false].map W.d)) ∧ Keep M1 M' ∧ M1 f = none) (fun N hN => ?_) ?_
      · exact ⟨⟨_, g3⟩, p, _, [false, false, false, false, false, false, false], rfl, hp3, rfl, by decide, ⟨D, eD, xD⟩, isAll_sub T.b_NoCondition (by decide +kernel), _, g3, by rw [sizeLine_eq]; decide, hN _ _ ⟨f, rfl, mset_same, keep_put k3 nf, nf⟩⟩
      rintro _ M4 ⟨f, rfl, g4, k4, nf⟩
      have hp4 := k4 _ _ hp
      refine sq_cut (fun σ M' => ∃ f, σ = [some (.ref lf), some (.ref p), none, some (.d (.list [PyData.bool false, PyData.bool false, PyData.bool true])), some (.ref f)] ∧ M' f = some (.lst ([PyData.bool false, PyData.bool false, PyData.bool false, PyData.bool false].map W.d)) ∧ Keep M1 M' ∧ M1 f = none) (fun N hN => ?_) ?_
      · exact ⟨⟨_, g4⟩, p, _, [false, false, false], rfl, hp4, rfl, by decide, ⟨D, eD, xD⟩, isAll_sub T.b_NoCondition (by decide +kernel), _, g4, by rw [sizeLine_eq]; decide, hN _ _ ⟨f, rfl, mset_same, keep_put k4 nf, nf⟩⟩
      rintro _ M5 ⟨f, rfl, g5, k5, nf⟩
      have hp5 := k5 _ _ hp
      refine ⟨trivial, by decide +kernel, ?_⟩
      rw [show ((List.countP (fun y => PyData.eqv y (.bool true)) [PyData.bool false, PyData.bool false, PyData.bool true] : Nat) : Int) = 1 from by decide +kernel]
      refine ⟨rfl, bqc false rfl ?_⟩
      dsimp only
      rw [if_neg Bool.false_ne_true]
      refine ⟨_, g5, dataQ_of ⟨by decide +kernel, bqc false (by decide +kernel) ?_⟩⟩
      dsimp only
      rw [if_neg Bool.false_ne_true]
      refine ⟨p, _, _, rfl, hp5, h_ValueError, bqc true rfl ?_⟩
      dsimp only
      rw [if_neg (by simp)]
      refine ⟨sm3, trivial, by decide +kernel, 2, .bool true, rfl, rfl, fun q z hq hz => ?_, _, rfl, h _ (kk.trans k5)⟩
      match q, hq, hz with
      | 0, _, hz => cases hz; rfl
      | 1, _, hz => cases hz; rfl

end Ms
set_option Elab.async false
set_option linter.all false
set_option maxRecDepth 100000
set_option maxHeartbeats 4000000
namespace Ms
open PySem PySem.Spec PyProof.Rows L2 Dl
theorem cnD_tup7 (c : Cn) : ∃ xs, cnD c = .tuple xs := by
  cases c <;> (rw [cnD]; exact ⟨_, rfl⟩)
def t0 : TK := [(kk "a" 0, .str "b"), (kk "a" 2, .str "c"), (kk "n" 1, .int 7)]
theorem t0_ans : AnsT t0 := fun q h => by
  unfold t0 at h
  simp only [List.mem_cons, List.not_mem_nil, or_false] at h
  rcases h with rfl | rfl | rfl
  · exact .str (by decide +kernel)
  · exact .str (by decide +kernel)
  · exact .int (by decide) (by decide)
theorem t0_puts : nPuts [] (tkW t0) = tkW t0 := by
  first
    | rfl
    | decide +kernel
def cA : Cn := .pc "is" "a" (.str "b")
def cB : Cn := .pc "from" "n" (.int 7)
def cC : Cn := .an "any" "r" (.pc "from" "n" (.int 7))
def cE : Cn := .an "every" "r" (.pc "is" "x" (.str "y"))
theorem cA_e : cnD cA = .tuple [.str "is", .str "a", .str "b"] := by unfold cA; rw [cnD]
theorem cB_e : cnD cB = .tuple [.str "from", .str "n", .int 7] := by unfold cB; rw [cnD]
theorem cC_e : cnD cC = .tuple [.str "any", .str "r", .tuple [.str "from", .str "n", .int 7]] := by unfold cC; rw [cnD, cnD]
theorem cE_e : cnD cE = .tuple [.str "every", .str "r", .tuple [.str "is", .str "x", .str "y"]] := by unfold cE; rw [cnD, cnD]
theorem pA : isPiece "is" [.str "a", .str "b"] = true := by decide +kernel
theorem pB : isPiece "from" [.str "n", .int 7] = true := by decide +kernel
theorem pE : isPiece "is" [.str "x", .str "y"] = true := by decide +kernel
theorem cA_v : CnV 6 false cA := .pc pA
theorem cB_v : CnV 6 false cB := .pc pB
theorem cC_v : CnV 6 false cC := .an (.inl rfl) (by decide +kernel) (.pc pB)
theorem cE_v : CnV 6 false cE := .an (.inr rfl) (by decide +kernel) (.pc pE)
theorem cA_c : isCond (cnD cA) = true := by rw [cA_e]; decide +kernel
theorem cB_c : isCond (cnD cB) = true := by rw [cB_e]; decide +kernel
theorem cC_c : isCond (cnD cC) = true := by rw [cC_e]; decide +kernel
theorem cE_c : isCond (cnD cE) = true := by rw [cE_e]; decide +kernel
theorem hA2 : Hc t0 [] 2 cA = false := by unfold cA; rw [Hc]; decide +kernel
theorem hA1 : Hc t0 [] 1 cA = true := by unfold cA; rw [Hc]; decide +kernel
theorem hB0 : Hc t0 [] 0 cB = false := by unfold cB; rw [Hc]; decide +kernel
theorem hC0 : Hc t0 [("r", 1)] 0 cC = true := by
  unfold cC
  rw [Hc, if_pos (by decide +kernel)]
  show ((List.range 1).map _).any _ = true
  rw [show List.range 1 = [0] by decide]
  simp only [List.map_cons, List.map_nil, List.any_cons, List.any_nil]
  rw [Hc]
  decide +kernel
theorem hE0 : Hc t0 [] 0 cE = true := by
  unfold cE
  rw [Hc, if_neg (by decide +kernel)]
  rfl
theorem fk1 : FkOk [("r", 1)] := fun q h => by
  rw [List.mem_singleton.mp h]
  exact ⟨by decide, by decide⟩
end Ms
set_option Elab.async false
set_option linter.all false
set_option maxRecDepth 100000
set_option maxHeartbeats 4000000
namespace Ms
open PySem PySem.Spec PyProof.Rows L2 Dl
theorem okT_of {B w d : Nat} {x : PyData} (h : Fn B w d x) (hB : B ≤ 2 ^ 198 := by decide) (hw : w ≤ 16000000 := by decide) : okT x := ⟨okL_mono hB x h.o, Nat.le_trans h.w hw⟩
theorem pot_keep {p : Addr} {n : Nat} {M M' : MH} (h : Pot p n M) (k : Keep M M') : Pot p n M' := by
  obtain ⟨x, y, z, e, r⟩ := h
  exact ⟨x, y, z, k _ _ e, r⟩
abbrev lamQ : Str := "law.<locals>.<lambda>"
theorem andF {t u : TTd} {σ : SD} {M : MH} {Q : Bool → MH → Prop} (h1 : ∀ R : Bool → MH → Prop, R false M → t σ M R) (h2 : Q false M) : Dl.tAndT t u σ M Q := by
  refine h1 _ ?_
  exact h2
theorem andT {t u : TTd} {σ : SD} {M : MH} {Q : Bool → MH → Prop} (h1 : ∀ R : Bool → MH → Prop, R true M → t σ M R) (h2 : u σ M Q) : Dl.tAndT t u σ M Q := by
  refine h1 _ ?_
  exact h2
theorem law_ok {g : Gc} {f c TL : Addr} {fd : FuncData} (T : Txt g) (F : L2.Fun g.K "law" "law" s_law f fd) (tb : LamX.TabB g.base g.mg c TL) (hcd : fd.code = .ref c) : FnG g 23 f fd ["_law_script"] (spLawT TL lamQ) := by
  refine fng_tab (k := 23 - 1) (i := i_law) (nm := lamQ) F sc_law ok_law T.sy tb hcd (by decide +kernel) spLawT_len (fun Y ws M Q E F hE CA h => ?_)
  obtain ⟨ns, rfl, hns, hT, h⟩ := h
  refine ⟨_, (ss_cons (s_for F (i_rng1 F 0 T.n_range (a_cons (q_callB F 1 (c_max F) T.n_max (by decide +kernel) (a_cons q_int (a_cons (q_callB F 5 (c_min F) T.n_min (by decide +kernel) (a_cons q_int (a_cons (q_callB F 10 c_len T.n_len (by decide +kernel) (a_cons (q_var F 0) a_nil)) a_nil))) a_nil))) a_nil)) (g_name F 1) (ss_cons (s_set (q_call F 2 (d_L_pot T) (a_cons (q_var F 0) (a_cons (q_var F 1) a_nil))) (g_name F 2)) (ss_cons (s_set (q_call F 3 (d_L_names T) (a_cons (q_var F 2) a_nil)) (g_name F 3)) (ss_cons (s_for F (i_rng1 F 0 T.n_range (a_cons q_int a_nil)) (g_name F 4) (ss_cons (s_set (q_call F 6 (d_L_condition T) (a_cons (q_var F 2) (a_cons (q_var F 3) a_nil))) (g_name F 5)) (ss_cons (s_setS F (q_tupM (a_cons (q_call F 11 (d_L_taken T) (a_cons (q_var F 2) (a_cons (q_var F 3) a_nil))) (a_cons (q_call F 12 (d_L_folk T) (a_cons (q_var F 2) (a_cons (q_var F 3) a_nil))) a_nil))) (g_tupM F (gs_cons (g_cell F 6) (gs_cons (g_cell F 7) gs_nil)))) (ss_one (s_if (t_not (t_val (q_call F 13 (d_L_asked_right T) (a_cons (q_var F 2) (a_cons (q_var F 5) (a_cons (q_var F 6) (a_cons (q_var F 7) a_nil))))))) (ss_one (s_ret q_bool)) ss_nil))))) (ss_one (s_for F (i_lst (q_lst (a_cons (q_call F 7 (d_L_bent T 5) (a_cons (q_var F 2) (a_cons (q_var F 5) (a_cons q_int a_nil)))) (a_cons (q_call F 8 (d_L_odd T) (a_cons (q_var F 2) a_nil)) (a_cons (q_callT F 9 c_lst T.n_list (by decide +kernel) (a_cons (q_var F 5) a_nil)) (a_cons (q_tup (a_cons q_str (a_cons (q_tup (a_cons (q_var F 5) a_nil)) a_nil))) (a_cons (q_tup (a_cons q_str a_nil)) a_nil))))))) (g_cell F 8) (ss_one (s_if (QW.pt (w_and (t_not (t_val (q_call F 14 (d_L_is_condition T) (a_cons (q_var F 8) a_nil)))) (w_and1 (t_cmp (o_ne F) (q_lamW (iL := ⟨_, ["_law_script", "_law_k", "_law_pot_here", "_law_names_here", "_law_turn", "_law_condition_here", "_law_taken_here", "_law_house", "_law_thing"], [8, 6, 7], [], [], ["holds"], false, false⟩) rfl F CA 15 (d_L_word T) (LamX.lamS_by (by decide +kernel)) ⟨rfl, rfl, by decide +kernel, rfl, rfl, by decide +kernel, rfl⟩ (fun _ _ F hw => (q_callD (n := 4) (ks := []) (sl := []) hw F 0 (d_holds T) (fun _ _ _ _ _ _ _ us its ws h1 h2 h3 => match us, h1, its, h2, ws, h3 with | [_, _, _, _], _, [_, _], _, [], _ => ⟨_, rfl, rfl⟩) (a_cons (q_var F 8) (a_cons (q_var F 6) (a_cons q_int (a_cons (q_var F 7) a_nil)))) qk_nil)) rfl (fun _ _ _ _ _ => rfl)) q_str)))) (ss_one (s_ret q_bool)) ss_nil)))))))) (ss_cons (s_set (q_ndisL F (qp_cons (q_tup (a_cons q_str (a_cons q_int a_nil))) q_str (qp_cons (q_tup (a_cons q_str (a_cons q_int a_nil))) q_str (qp_cons (q_tup (a_cons q_str (a_cons q_int a_nil))) q_int qp_nil)))) (g_cell F 6)) (ss_cons (s_if (QW.pt (w_or (t_val (q_callD (n := 3) (ks := []) (sl := [(false, 1)]) rfl F 4 (d_holds T) (fun _ _ _ _ _ _ _ us its ws h1 h2 h3 => match us, h1, its, h2, ws, h3 with | [_, _, _], _, [_, _], _, [], _ => ⟨_, rfl, rfl⟩) (a_cons (q_tup (a_cons q_str (a_cons q_str (a_cons q_str a_nil)))) (a_cons (q_var F 6) (a_cons q_int a_nil))) qk_nil)) (w_or (t_not (t_val (q_callD (n := 3) (ks := []) (sl := [(false, 1)]) rfl F 4 (d_holds T) (fun _ _ _ _ _ _ _ us its ws h1 h2 h3 => match us, h1, its, h2, ws, h3 with | [_, _, _], _, [_, _], _, [], _ => ⟨_, rfl, rfl⟩) (a_cons (q_tup (a_cons q_str (a_cons q_str (a_cons q_str a_nil)))) (a_cons (q_var F 6) (a_cons q_int a_nil))) qk_nil))) (w_or1 (t_val (q_callD (n := 2) (ks := []) (sl := [(false, 0), (false, 1)]) rfl F 4 (d_holds T) (fun _ _ _ _ _ _ _ us its ws h1 h2 h3 => match us, h1, its, h2, ws, h3 with | [_, _], _, [_, _], _, [], _ => ⟨_, rfl, rfl⟩) (a_cons (q_tup (a_cons q_str (a_cons q_str (a_cons q_int a_nil)))) (a_cons (q_var F 6) a_nil)) qk_nil)))))) (ss_one (s_ret q_bool)) ss_nil) (ss_one (s_ret (q_and (q_callD (n := 2) (ks := ["folk"]) (sl := [(false, 0), (true, 0)]) rfl F 4 (d_holds T) (fun _ _ _ _ _ _ _ us its ws h1 h2 h3 => match us, h1, its, h2, ws, h3 with | [_, _], _, [_, _], _, [_], _ => ⟨_, rfl, rfl⟩) (a_cons (q_tup (a_cons q_str (a_cons q_str (a_cons (q_tup (a_cons q_str (a_cons q_str (a_cons q_int a_nil)))) a_nil)))) (a_cons (q_var F 6) a_nil)) (qk_cons (q_frzD (q_sdisL F (qp_cons q_str q_int qp_nil))) qk_nil)) (q_one (q_callD (n := 2) (ks := []) (sl := [(false, 0), (false, 1)]) rfl F 4 (d_holds T) (fun _ _ _ _ _ _ _ us its ws h1 h2 h3 => match us, h1, its, h2, ws, h3 with | [_, _], _, [_, _], _, [], _ => ⟨_, rfl, rfl⟩) (a_cons (q_tup (a_cons q_str (a_cons q_str (a_cons (q_tup (a_cons q_str (a_cons q_str (a_cons q_str a_nil)))) a_nil)))) (a_cons (q_var F 6) a_nil)) qk_nil)))))))), ?_⟩
  have lo : lots = 1073741824 := by decide
  refine ⟨⟨by omega, by omega⟩, fun j σ M' => M' TL = some (.tbl lamQ) ∧ ∃ x1 x2 x3 x4 x5 x6 x7 x8, σ = [some (.scr (ns.map PyData.int)), x1, x2, x3, x4, x5, x6, x7, x8], ⟨hT, _, _, _, _, _, _, _, _, rfl⟩, fun _ _ _ _ => trivial, ?_, ?_⟩
  · rintro j w σ M1 hj ⟨hT1, x1, x2, x3, x4, x5, x6, x7, x8, rfl⟩
    obtain ⟨hj', rfl⟩ := rng_get hj
    have hj16 : j < 16 := by omega
    refine ⟨ns, _, rfl, by omega, by omega, fun p M2 np pt o2 => ?_⟩
    have pT : TL ≠ p := by rintro rfl; rw [np] at hT1; cases hT1
    refine ⟨p, 0, rfl, by omega, pt, fun nms M3 hnm p3 o3 => ?_⟩
    have hT3 := o3 TL _ pT (o2 TL _ pT hT1)
    dsimp only [gNam]
    refine ⟨⟨by decide, by decide⟩, fun i σ M' => M' TL = some (.tbl lamQ) ∧ Pot p (40 + i * 400000) M' ∧ ∃ x4 x5 x6 x7 x8, σ = [some (.scr (ns.map PyData.int)), some (.d (.int (0 + (j : Int)))), some (.ref p), some (.d nms), x4, x5, x6, x7, x8] ∧ (i = 0 ∨ ∃ c b t f, x5 = some (.d (cnD c)) ∧ x6 = some (.ref b) ∧ x7 = some (.d (sdD (fkD f))) ∧ isCond (cnD c) = true ∧ CnV 6 false c ∧ pcN c ≤ 30 ∧ b ≠ p ∧ M' b = some (.dN g.P g.w (tkW t)) ∧ TkX t ∧ FkX f), ⟨hT3, p3.mono (by omega), _, _, _, _, _, rfl, .inl rfl⟩, fun _ _ _ _ => trivial, ?_, ?_⟩
    · rintro i w σ M4 hi ⟨hT4, p4, x4, x5, x6, x7, x8, rfl, _⟩
      have hi3 : i < 3 := (rng_get hi).1
      dsimp only [gNam]
      refine ⟨p, _, nms, rfl, hnm, by omega, p4, fun x M5 hx p5 o5 => ?_⟩
      obtain ⟨c, rfl, hv, hn⟩ := cond_cn hx.c
      have hc := hx.c
      have hT5 := o5 TL _ pT hT4
      dsimp only [gNam]
      refine ⟨p, _, nms, rfl, hnm, by omega, p5, fun b t M6 nb tx tl hb p6 o6 => ?_⟩
      have hbp : b ≠ p := by rintro rfl; exact p5.there nb
      have hT6 := o6 TL _ pT hT5
      refine ⟨p, _, nms, rfl, hnm, by omega, p6, fun f M7 fx p7 o7 => ?_⟩
      have hb7 := o7 b _ hbp hb
      have hT7 := o7 TL _ pT hT6
      refine ⟨sm2, fun q nq => ?_⟩
      have hqT : TL ≠ q := by rintro rfl; rw [nq] at hT7; cases hT7
      have hqb : b ≠ q := by rintro rfl; rw [nq] at hb7; cases hb7
      have hqp : p ≠ q := p7.ne nq
      refine ⟨_, mset_same, rfl, ?_⟩
      have hT8 : (mset M7 q (.tup [.ref b, .d (sdD (fkD f))])) TL = some (.tbl lamQ) := by rw [mset_ne hqT]; exact hT7
      have hb8 : (mset M7 q (.tup [.ref b, .d (sdD (fkD f))])) b = some (.dN g.P g.w (tkW t)) := by rw [mset_ne hqb]; exact hb7
      have p8 := p7.of (M' := mset M7 q (.tup [.ref b, .d (sdD (fkD f))])) (mset_ne hqp)
      generalize mset M7 q (.tup [.ref b, .d (sdD (fkD f))]) = M8 at hT8 hb8 p8
      dsimp only [gNam]
      refine ⟨p, b, _, c, t, f, rfl, hc, hv, hn, hbp, hb8, tx, tl, fx, by omega, p8, fun M9 p9 o9 => ?_⟩
      refine bqc true rfl ?_
      exact ⟨o9 TL _ pT hT8, p9.mono (by omega), _, _, _, _, _, rfl, .inr ⟨c, b, t, f, rfl, rfl, rfl, hc, hv, hn, hbp, o9 b _ hbp hb8, tx, fx⟩⟩
    · rintro σ M4 ⟨hT4, p4, x4, x5, x6, x7, x8, rfl, hcase⟩
      rcases hcase with hz | ⟨c, b, t, f, rfl, rfl, rfl, hc, hv, hn, hbp, hb4, tx, fx⟩
      · exact absurd hz (by decide)
      have p4' : Pot p (40 + 3 * 400000) M4 := p4
      have fxc := (cnv_x hv).1
      have wc : pcN c * (250 + 30 * 6) ≤ 30 * 430 := Nat.mul_le_mul hn (by omega)
      obtain ⟨okx, _⟩ := cnv_okT hv (by omega) hn
      have F0 : Fn B1 13000 12 (cnD c) := fxc.f.mono (Nat.le_refl _) (by omega) (by omega)
      obtain ⟨xs, exs⟩ := cnD_tup7 c
      have lay := fxc.l
      have oka : okT (.tuple [.str "and", .tuple [cnD c]]) := okT_of (B := B1) (((FnA.one ((show Fn B1 3 0 (.str "and") from Fn.strW (by decide +kernel) (by decide +kernel)).mono (Nat.le_refl _) (Nat.le_refl _) (show 0 ≤ 13 by decide))).app (FnA.one (FnA.one F0).tup)).tup)
      have okn : okT (.tuple [.str "not"]) := okT_of (B := B1) (FnA.one (show Fn B1 3 0 (.str "not") from Fn.strW (by decide +kernel) (by decide +kernel))).tup
      rw [exs] at okx F0 lay oka ⊢
      have okl : okT (.list xs) := okT_of (show Fn B1 13000 12 (.list xs) from ⟨F0.o, F0.w, F0.d⟩)
      refine ⟨p, _, .tuple xs, 4, 13000, 12, rfl, by decide, by decide, F0, lay, by decide, by decide, (show 40 + 3 * 400000 + 5 * (4 + 1) ≤ lots by rw [lo]; decide), p4', fun y M5 hy p5 o5 => ?_⟩
      refine ⟨p, _, rfl, (show 40 + 3 * 400000 + 5 * (4 + 1) + 1 ≤ lots by rw [lo]; decide), p5, fun z M6 hz p6 o6 => ?_⟩
      have hT6 := o6 TL _ pT (o5 TL _ pT hT4)
      have hb6 := o6 b _ hbp (o5 b _ hbp hb4)
      refine ⟨sm1, sm2, sm1, sm5, ?_⟩
      refine ⟨fun _ σ M' => (M' TL = some (.tbl lamQ) ∧ M' b = some (.dN g.P g.w (tkW t))) ∧ ∃ x8, σ = [some (.scr (ns.map PyData.int)), some (.d (.int (0 + (j : Int)))), some (.ref p), some (.d nms), x4, some (.d (.tuple xs)), some (.ref b), some (.d (sdD (fkD f))), x8], ⟨⟨hT6, hb6⟩, _, rfl⟩, fun _ _ _ _ => trivial, ?_, ?_⟩
      · rintro i w σ M7 hi ⟨⟨hT7, hb7⟩, x8, rfl⟩
        obtain ⟨d, rfl, hm⟩ := mem_map_get hi
        have okd : okT d := by
          simp only [List.mem_cons, List.not_mem_nil, or_false] at hm
          rcases hm with rfl | rfl | rfl | rfl | rfl
          · exact okT_of hy
          · exact okT_of hz
          · exact okl
          · exact oka
          · exact okn
        dsimp only [gNam]
        cases e : isCond d with
        | true =>
          refine andF (fun R r => ⟨d, rfl, okd, show R (!isCond d) _ by rw [e]; exact r⟩) ?_
          exact ⟨⟨hT7, hb7⟩, _, rfl⟩
        | false =>
          refine andT (fun R r => ⟨d, rfl, okd, show R (!isCond d) _ by rw [e]; exact r⟩) ?_
          refine ⟨hT7, "condition", .inr rfl, fun N X a1 a2 => ⟨rfl, rfl, b, d, t, 0, _, rfl, okd, hb7, tx.a, .inl ⟨e, a2 rfl⟩⟩, fun M9 k9 => ?_⟩
          refine ⟨rfl, bqc false (by simp [PyData.eqv]) ?_⟩
          exact ⟨⟨k9 _ _ hT7, k9 _ _ hb7⟩, _, rfl⟩
      · rintro σ M7 ⟨⟨hT7, _⟩, x8, rfl⟩
        exact ⟨hT7, _, _, _, _, _, _, _, _, rfl⟩
  · rintro σ M1 ⟨hT1, x1, x2, x3, x4, x5, x6, x7, x8, rfl⟩
    intro q nq
    refine ⟨sm2, sm2, sm2, mset_same, tkW t0, ?_, ?_, by decide, ?_⟩
    · simp [tkW, t0, kk_data]
    · intro y hy
      unfold tkW t0 at hy
      simp only [List.map_cons, List.map_nil, List.mem_cons, List.not_mem_nil, or_false] at hy
      rcases hy with rfl | rfl | rfl <;> exact ⟨by rw [kk_data]; rfl, kk_depth _ _⟩
    rw [t0_puts]
    dsimp only [gNam]
    have hq : (mset (mset M1 q (.dN g.P g.w [])) q (.dN g.P g.w (tkW t0))) q = some (.dN g.P g.w (tkW t0)) := mset_same
    generalize mset (mset M1 q (.dN g.P g.w [])) q (.dN g.P g.w (tkW t0)) = M2 at hq
    have oA : okT (.tuple [.str "is", .str "a", .str "b"]) := by rw [← cA_e]; exact (cnv_okT cA_v (by decide) (by unfold cA; rw [pcN]; decide)).1
    have oB : okT (.tuple [.str "from", .str "n", .int 7]) := by rw [← cB_e]; exact (cnv_okT cB_v (by decide) (by unfold cB; rw [pcN]; decide)).1
    have oC : okT (.tuple [.str "any", .str "r", .tuple [.str "from", .str "n", .int 7]]) := by rw [← cC_e]; exact (cnv_okT cC_v (by decide) (by unfold cC; rw [pcN, pcN]; decide)).1
    have oE : okT (.tuple [.str "every", .str "r", .tuple [.str "is", .str "x", .str "y"]]) := by rw [← cE_e]; exact (cnv_okT cE_v (by decide) (by unfold cE; rw [pcN, pcN]; decide)).1
    have iA := cA_c
    have iB := cB_c
    have iC := cC_c
    have iE := cE_c
    rw [cA_e] at iA
    rw [cB_e] at iB
    rw [cC_e] at iC
    rw [cE_e] at iE
    refine orF (fun R r => ⟨sm3, rfl, rfl, q, _, t0, 2, _, rfl, oA, hq, t0_ans, .inr ⟨cA, [], iA, cA_e.symm, cA_v, .inr ⟨rfl, rfl⟩, fk_nil, show R (Hc t0 [] 2 cA) _ by rw [hA2]; exact r⟩⟩) ?_
    refine orF (fun R r => ⟨sm3, rfl, rfl, q, _, t0, 1, _, rfl, oA, hq, t0_ans, .inr ⟨cA, [], iA, cA_e.symm, cA_v, .inr ⟨rfl, rfl⟩, fk_nil, show R (!Hc t0 [] 1 cA) _ by rw [hA1]; exact r⟩⟩) ?_
    refine ⟨sm3, rfl, rfl, q, _, t0, 0, _, rfl, oB, hq, t0_ans, .inr ⟨cB, [], iB, cB_e.symm, cB_v, .inr ⟨rfl, rfl⟩, fk_nil, ?_⟩⟩
    refine bqc false hB0 (iteF ?_)
    dsimp only [tNxt]
    refine ⟨sm3, sm3, fun q2 nq2 => ?_⟩
    have hqq : q ≠ q2 := by rintro rfl; rw [nq2] at hq; cases hq
    refine ⟨mset_same, [("r", .d (.int 1))], rfl, by decide, q2, [("r", .int 1)], rfl, by rw [mset_same]; rfl, rfl, rfl, q, _, t0, 0, _, rfl, oC, by rw [mdel_ne hqq, mset_ne hqq, mset_ne hqq]; exact hq, t0_ans, .inr ⟨cC, [("r", 1)], iC, cC_e.symm, cC_v, .inl rfl, fk1, ?_⟩⟩
    refine bqc true hC0 (iteT ?_)
    refine ⟨sm3, sm3, rfl, rfl, q, _, t0, 0, _, rfl, oE, by rw [mdel_ne hqq, mset_ne hqq, mset_ne hqq]; exact hq, t0_ans, .inr ⟨cE, [], iE, cE_e.symm, cE_v, .inr ⟨rfl, rfl⟩, fk_nil, ?_⟩⟩
    rw [hE0]
    exact h _
end Ms
set_option Elab.async false
set_option linter.all false
set_option maxRecDepth 100000
namespace Ms
open PySem PySem.Spec PyProof.Rows L2 Dl
theorem all_mk {l : PySem.W.OpenLaw} {w : World} {K : PySem.W.Frag} {h : Heap} {mg : Str → Option Value} {fa f_is_whole f_is_within f_is_number f_is_name f_holds_is f_holds_has f_holds_from f_holds_to f_is_piece f_pieces_of_parts f_pieces_in f_is_condition f_need_condition f_taken_of f_holds_piece f_holds_by f_holds f_L_pot f_L_take f_L_words f_L_name f_L_is_name f_L_is_within f_L_odd f_L_bent f_L_word f_L_names f_L_piece f_L_drawn f_L_condition f_L_pieces f_L_is_condition f_L_holds f_L_taken f_L_folk f_L_told f_L_asked_right f_law C_NoCondition C_AskError C_NoKind C_NoValue C_NoForm C_NoKey C_TooWide C_Stuck C_NoBook C_Clash C_Full C_NoNames C_NoEntry C_NoCheck C_Twice C_NoLines C_NoRound C_NoWeights C_NoTable C_NoFits C_NoTotals C_NoCounts C_NoPlaces C_NoPlace C_NoText C_NoLine C_CannotGo C_NoRecord C_NoFit dT_holds cT TL : Addr} (X : K.In h) (G : h.Ns mainGlobals mg) (hfa : mg "law" = some (.ref fa))
    {od_is_whole an_is_whole od_is_within an_is_within od_is_number an_is_number od_is_name an_is_name od_holds_is an_holds_is od_holds_has an_holds_has od_holds_from an_holds_from od_holds_to an_holds_to od_is_piece an_is_piece od_pieces_of_parts an_pieces_of_parts od_pieces_in an_pieces_in od_is_condition an_is_condition od_need_condition an_need_condition od_taken_of an_taken_of od_holds_piece an_holds_piece od_holds_by an_holds_by od_holds an_holds od_L_pot an_L_pot od_L_take an_L_take od_L_words an_L_words od_L_name an_L_name od_L_is_name an_L_is_name od_L_is_within an_L_is_within od_L_odd an_L_odd od_L_bent an_L_bent od_L_word an_L_word od_L_names an_L_names od_L_piece an_L_piece od_L_drawn an_L_drawn od_L_condition an_L_condition od_L_pieces an_L_pieces od_L_is_condition an_L_is_condition od_L_holds an_L_holds od_L_taken an_L_taken od_L_folk an_L_folk od_L_told an_L_told od_L_asked_right an_L_asked_right od_law an_law : Option Addr} {sl_is_whole sl_is_within sl_is_number sl_is_name sl_holds_is sl_holds_has sl_holds_from sl_holds_to sl_is_piece sl_pieces_of_parts sl_pieces_in sl_is_condition sl_need_condition sl_taken_of sl_holds_piece sl_holds_by sl_holds sl_L_pot sl_L_take sl_L_words sl_L_name sl_L_is_name sl_L_is_within sl_L_odd sl_L_bent sl_L_word sl_L_names sl_L_piece sl_L_drawn sl_L_condition sl_L_pieces sl_L_is_condition sl_L_holds sl_L_taken sl_L_folk sl_L_told sl_L_asked_right sl_law : Array (Option Value)} {oc_is_whole kV_is_whole dc_is_whole pm_is_whole cd_is_whole ct_is_whole oc_is_within kV_is_within dc_is_within pm_is_within cd_is_within ct_is_within oc_is_number kV_is_number dc_is_number pm_is_number cd_is_number ct_is_number oc_is_name kV_is_name dc_is_name pm_is_name cd_is_name ct_is_name oc_holds_is kV_holds_is dc_holds_is pm_holds_is cd_holds_is ct_holds_is oc_holds_has kV_holds_has dc_holds_has pm_holds_has cd_holds_has ct_holds_has oc_holds_from kV_holds_from dc_holds_from pm_holds_from cd_holds_from ct_holds_from oc_holds_to kV_holds_to dc_holds_to pm_holds_to cd_holds_to ct_holds_to oc_is_piece kV_is_piece dc_is_piece pm_is_piece cd_is_piece ct_is_piece oc_pieces_of_parts kV_pieces_of_parts dc_pieces_of_parts pm_pieces_of_parts cd_pieces_of_parts ct_pieces_of_parts oc_pieces_in kV_pieces_in dc_pieces_in pm_pieces_in cd_pieces_in ct_pieces_in oc_is_condition kV_is_condition dc_is_condition pm_is_condition cd_is_condition ct_is_condition oc_need_condition kV_need_condition dc_need_condition pm_need_condition cd_need_condition ct_need_condition oc_taken_of kV_taken_of dc_taken_of pm_taken_of cd_taken_of ct_taken_of oc_holds_piece kV_holds_piece dc_holds_piece pm_holds_piece cd_holds_piece ct_holds_piece oc_holds_by kV_holds_by dc_holds_by pm_holds_by cd_holds_by ct_holds_by oc_holds kV_holds dc_holds pm_holds cd_holds ct_holds oc_L_pot kV_L_pot dc_L_pot pm_L_pot cd_L_pot ct_L_pot oc_L_take kV_L_take dc_L_take pm_L_take cd_L_take ct_L_take oc_L_words kV_L_words dc_L_words pm_L_words cd_L_words ct_L_words oc_L_name kV_L_name dc_L_name pm_L_name cd_L_name ct_L_name oc_L_is_name kV_L_is_name dc_L_is_name pm_L_is_name cd_L_is_name ct_L_is_name oc_L_is_within kV_L_is_within dc_L_is_within pm_L_is_within cd_L_is_within ct_L_is_within oc_L_odd kV_L_odd dc_L_odd pm_L_odd cd_L_odd ct_L_odd oc_L_bent kV_L_bent dc_L_bent pm_L_bent cd_L_bent ct_L_bent oc_L_word kV_L_word dc_L_word pm_L_word cd_L_word ct_L_word oc_L_names kV_L_names dc_L_names pm_L_names cd_L_names ct_L_names oc_L_piece kV_L_piece dc_L_piece pm_L_piece cd_L_piece ct_L_piece oc_L_drawn kV_L_drawn dc_L_drawn pm_L_drawn cd_L_drawn ct_L_drawn oc_L_condition kV_L_condition dc_L_condition pm_L_condition cd_L_condition ct_L_condition oc_L_pieces kV_L_pieces dc_L_pieces pm_L_pieces cd_L_pieces ct_L_pieces oc_L_is_condition kV_L_is_condition dc_L_is_condition pm_L_is_condition cd_L_is_condition ct_L_is_condition oc_L_holds kV_L_holds dc_L_holds pm_L_holds cd_L_holds ct_L_holds oc_L_taken kV_L_taken dc_L_taken pm_L_taken cd_L_taken ct_L_taken oc_L_folk kV_L_folk dc_L_folk pm_L_folk cd_L_folk ct_L_folk oc_L_told kV_L_told dc_L_told pm_L_told cd_L_told ct_L_told oc_L_asked_right kV_L_asked_right dc_L_asked_right pm_L_asked_right cd_L_asked_right ct_L_asked_right oc_law kV_law dc_law pm_law cd_law ct_law : Value} {u_MOST_NUMBER u_WORDS u_MOST_LETTERS u_LETTERS u_MOST_PARTS u_MOST_DEEP u_MOST_PIECES : Value} {dt_PIECES : Addr} {et_PIECES : Array DictEntry} {nt_PIECES : Nat} {do_holds : Value} {dd_holds : Option Addr} {dv_holds : Array Value} {dn_holds : Nat} {ds_holds : Array (Option Value)} {oq : Value} {dq : Option Addr} {vq : Array Value} {sq : Array (Option Value)}
    (a_is_whole : PySem.W.nsIn K mainGlobals "is_whole" = some (some (.ref f_is_whole))) (l_is_whole : K.lookup f_is_whole = some ⟨oc_is_whole, od_is_whole, .func (PySem.W.fnOf "is_whole" "is_whole" (defArgs s_is_whole) (defBody s_is_whole) (defScope s_is_whole) .none kV_is_whole dc_is_whole pm_is_whole an_is_whole cd_is_whole ct_is_whole), sl_is_whole⟩) (c_is_whole : PySem.W.codeIn K cd_is_whole "is_whole" = true) (k_is_whole : PySem.W.keepIn K (.ref f_is_whole) = true)
    (a_is_within : PySem.W.nsIn K mainGlobals "is_within" = some (some (.ref f_is_within))) (l_is_within : K.lookup f_is_within = some ⟨oc_is_within, od_is_within, .func (PySem.W.fnOf "is_within" "is_within" (defArgs s_is_within) (defBody s_is_within) (defScope s_is_within) .none kV_is_within dc_is_within pm_is_within an_is_within cd_is_within ct_is_within), sl_is_within⟩) (c_is_within : PySem.W.codeIn K cd_is_within "is_within" = true) (k_is_within : PySem.W.keepIn K (.ref f_is_within) = true)
    (a_is_number : PySem.W.nsIn K mainGlobals "is_number" = some (some (.ref f_is_number))) (l_is_number : K.lookup f_is_number = some ⟨oc_is_number, od_is_number, .func (PySem.W.fnOf "is_number" "is_number" (defArgs s_is_number) (defBody s_is_number) (defScope s_is_number) .none kV_is_number dc_is_number pm_is_number an_is_number cd_is_number ct_is_number), sl_is_number⟩) (c_is_number : PySem.W.codeIn K cd_is_number "is_number" = true) (k_is_number : PySem.W.keepIn K (.ref f_is_number) = true)
    (a_is_name : PySem.W.nsIn K mainGlobals "is_name" = some (some (.ref f_is_name))) (l_is_name : K.lookup f_is_name = some ⟨oc_is_name, od_is_name, .func (PySem.W.fnOf "is_name" "is_name" (defArgs s_is_name) (defBody s_is_name) (defScope s_is_name) .none kV_is_name dc_is_name pm_is_name an_is_name cd_is_name ct_is_name), sl_is_name⟩) (c_is_name : PySem.W.codeIn K cd_is_name "is_name" = true) (k_is_name : PySem.W.keepIn K (.ref f_is_name) = true)
    (a_holds_is : PySem.W.nsIn K mainGlobals "holds_is" = some (some (.ref f_holds_is))) (l_holds_is : K.lookup f_holds_is = some ⟨oc_holds_is, od_holds_is, .func (PySem.W.fnOf "holds_is" "holds_is" (defArgs s_holds_is) (defBody s_holds_is) (defScope s_holds_is) .none kV_holds_is dc_holds_is pm_holds_is an_holds_is cd_holds_is ct_holds_is), sl_holds_is⟩) (c_holds_is : PySem.W.codeIn K cd_holds_is "holds_is" = true) (k_holds_is : PySem.W.keepIn K (.ref f_holds_is) = true)
    (a_holds_has : PySem.W.nsIn K mainGlobals "holds_has" = some (some (.ref f_holds_has))) (l_holds_has : K.lookup f_holds_has = some ⟨oc_holds_has, od_holds_has, .func (PySem.W.fnOf "holds_has" "holds_has" (defArgs s_holds_has) (defBody s_holds_has) (defScope s_holds_has) .none kV_holds_has dc_holds_has pm_holds_has an_holds_has cd_holds_has ct_holds_has), sl_holds_has⟩) (c_holds_has : PySem.W.codeIn K cd_holds_has "holds_has" = true) (k_holds_has : PySem.W.keepIn K (.ref f_holds_has) = true)
    (a_holds_from : PySem.W.nsIn K mainGlobals "holds_from" = some (some (.ref f_holds_from))) (l_holds_from : K.lookup f_holds_from = some ⟨oc_holds_from, od_holds_from, .func (PySem.W.fnOf "holds_from" "holds_from" (defArgs s_holds_from) (defBody s_holds_from) (defScope s_holds_from) .none kV_holds_from dc_holds_from pm_holds_from an_holds_from cd_holds_from ct_holds_from), sl_holds_from⟩) (c_holds_from : PySem.W.codeIn K cd_holds_from "holds_from" = true) (k_holds_from : PySem.W.keepIn K (.ref f_holds_from) = true)
    (a_holds_to : PySem.W.nsIn K mainGlobals "holds_to" = some (some (.ref f_holds_to))) (l_holds_to : K.lookup f_holds_to = some ⟨oc_holds_to, od_holds_to, .func (PySem.W.fnOf "holds_to" "holds_to" (defArgs s_holds_to) (defBody s_holds_to) (defScope s_holds_to) .none kV_holds_to dc_holds_to pm_holds_to an_holds_to cd_holds_to ct_holds_to), sl_holds_to⟩) (c_holds_to : PySem.W.codeIn K cd_holds_to "holds_to" = true) (k_holds_to : PySem.W.keepIn K (.ref f_holds_to) = true)
    (a_is_piece : PySem.W.nsIn K mainGlobals "is_piece" = some (some (.ref f_is_piece))) (l_is_piece : K.lookup f_is_piece = some ⟨oc_is_piece, od_is_piece, .func (PySem.W.fnOf "is_piece" "is_piece" (defArgs s_is_piece) (defBody s_is_piece) (defScope s_is_piece) .none kV_is_piece dc_is_piece pm_is_piece an_is_piece cd_is_piece ct_is_piece), sl_is_piece⟩) (c_is_piece : PySem.W.codeIn K cd_is_piece "is_piece" = true) (k_is_piece : PySem.W.keepIn K (.ref f_is_piece) = true)
    (a_pieces_of_parts : PySem.W.nsIn K mainGlobals "pieces_of_parts" = some (some (.ref f_pieces_of_parts))) (l_pieces_of_parts : K.lookup f_pieces_of_parts = some ⟨oc_pieces_of_parts, od_pieces_of_parts, .func (PySem.W.fnOf "pieces_of_parts" "pieces_of_parts" (defArgs s_pieces_of_parts) (defBody s_pieces_of_parts) (defScope s_pieces_of_parts) .none kV_pieces_of_parts dc_pieces_of_parts pm_pieces_of_parts an_pieces_of_parts cd_pieces_of_parts ct_pieces_of_parts), sl_pieces_of_parts⟩) (c_pieces_of_parts : PySem.W.codeIn K cd_pieces_of_parts "pieces_of_parts" = true) (k_pieces_of_parts : PySem.W.keepIn K (.ref f_pieces_of_parts) = true)
    (a_pieces_in : PySem.W.nsIn K mainGlobals "pieces_in" = some (some (.ref f_pieces_in))) (l_pieces_in : K.lookup f_pieces_in = some ⟨oc_pieces_in, od_pieces_in, .func (PySem.W.fnOf "pieces_in" "pieces_in" (defArgs s_pieces_in) (defBody s_pieces_in) (defScope s_pieces_in) .none kV_pieces_in dc_pieces_in pm_pieces_in an_pieces_in cd_pieces_in ct_pieces_in), sl_pieces_in⟩) (c_pieces_in : PySem.W.codeIn K cd_pieces_in "pieces_in" = true) (k_pieces_in : PySem.W.keepIn K (.ref f_pieces_in) = true)
    (a_is_condition : PySem.W.nsIn K mainGlobals "is_condition" = some (some (.ref f_is_condition))) (l_is_condition : K.lookup f_is_condition = some ⟨oc_is_condition, od_is_condition, .func (PySem.W.fnOf "is_condition" "is_condition" (defArgs s_is_condition) (defBody s_is_condition) (defScope s_is_condition) .none kV_is_condition dc_is_condition pm_is_condition an_is_condition cd_is_condition ct_is_condition), sl_is_condition⟩) (c_is_condition : PySem.W.codeIn K cd_is_condition "is_condition" = true) (k_is_condition : PySem.W.keepIn K (.ref f_is_condition) = true)
    (a_need_condition : PySem.W.nsIn K mainGlobals "need_condition" = some (some (.ref f_need_condition))) (l_need_condition : K.lookup f_need_condition = some ⟨oc_need_condition, od_need_condition, .func (PySem.W.fnOf "need_condition" "need_condition" (defArgs s_need_condition) (defBody s_need_condition) (defScope s_need_condition) .none kV_need_condition dc_need_condition pm_need_condition an_need_condition cd_need_condition ct_need_condition), sl_need_condition⟩) (c_need_condition : PySem.W.codeIn K cd_need_condition "need_condition" = true) (k_need_condition : PySem.W.keepIn K (.ref f_need_condition) = true)
    (a_taken_of : PySem.W.nsIn K mainGlobals "taken_of" = some (some (.ref f_taken_of))) (l_taken_of : K.lookup f_taken_of = some ⟨oc_taken_of, od_taken_of, .func (PySem.W.fnOf "taken_of" "taken_of" (defArgs s_taken_of) (defBody s_taken_of) (defScope s_taken_of) .none kV_taken_of dc_taken_of pm_taken_of an_taken_of cd_taken_of ct_taken_of), sl_taken_of⟩) (c_taken_of : PySem.W.codeIn K cd_taken_of "taken_of" = true) (k_taken_of : PySem.W.keepIn K (.ref f_taken_of) = true)
    (a_holds_piece : PySem.W.nsIn K mainGlobals "holds_piece" = some (some (.ref f_holds_piece))) (l_holds_piece : K.lookup f_holds_piece = some ⟨oc_holds_piece, od_holds_piece, .func (PySem.W.fnOf "holds_piece" "holds_piece" (defArgs s_holds_piece) (defBody s_holds_piece) (defScope s_holds_piece) .none kV_holds_piece dc_holds_piece pm_holds_piece an_holds_piece cd_holds_piece ct_holds_piece), sl_holds_piece⟩) (c_holds_piece : PySem.W.codeIn K cd_holds_piece "holds_piece" = true) (k_holds_piece : PySem.W.keepIn K (.ref f_holds_piece) = true)
    (a_holds_by : PySem.W.nsIn K mainGlobals "holds_by" = some (some (.ref f_holds_by))) (l_holds_by : K.lookup f_holds_by = some ⟨oc_holds_by, od_holds_by, .func (PySem.W.fnOf "holds_by" "holds_by" (defArgs s_holds_by) (defBody s_holds_by) (defScope s_holds_by) .none kV_holds_by dc_holds_by pm_holds_by an_holds_by cd_holds_by ct_holds_by), sl_holds_by⟩) (c_holds_by : PySem.W.codeIn K cd_holds_by "holds_by" = true) (k_holds_by : PySem.W.keepIn K (.ref f_holds_by) = true)
    (a_holds : PySem.W.nsIn K mainGlobals "holds" = some (some (.ref f_holds))) (l_holds : K.lookup f_holds = some ⟨oc_holds, od_holds, .func (PySem.W.fnOf "holds" "holds" (defArgs s_holds) (defBody s_holds) (defScope s_holds) (.ref dT_holds) kV_holds dc_holds pm_holds an_holds cd_holds ct_holds), sl_holds⟩) (c_holds : PySem.W.codeIn K cd_holds "holds" = true) (k_holds : PySem.W.keepIn K (.ref f_holds) = true)
    (dl_holds : K.lookup dT_holds = some ⟨do_holds, dd_holds, .seq dv_holds dn_holds, ds_holds⟩) (dk_holds : chkDs K dv_holds.toList [.int (0), .none] = true)
    (a_L_pot : PySem.W.nsIn K mainGlobals "_law_pot" = some (some (.ref f_L_pot))) (l_L_pot : K.lookup f_L_pot = some ⟨oc_L_pot, od_L_pot, .func (PySem.W.fnOf "_law_pot" "_law_pot" (defArgs s_L_pot) (defBody s_L_pot) (defScope s_L_pot) .none kV_L_pot dc_L_pot pm_L_pot an_L_pot cd_L_pot ct_L_pot), sl_L_pot⟩) (c_L_pot : PySem.W.codeIn K cd_L_pot "_law_pot" = true) (k_L_pot : PySem.W.keepIn K (.ref f_L_pot) = true)
    (a_L_take : PySem.W.nsIn K mainGlobals "_law_take" = some (some (.ref f_L_take))) (l_L_take : K.lookup f_L_take = some ⟨oc_L_take, od_L_take, .func (PySem.W.fnOf "_law_take" "_law_take" (defArgs s_L_take) (defBody s_L_take) (defScope s_L_take) .none kV_L_take dc_L_take pm_L_take an_L_take cd_L_take ct_L_take), sl_L_take⟩) (c_L_take : PySem.W.codeIn K cd_L_take "_law_take" = true) (k_L_take : PySem.W.keepIn K (.ref f_L_take) = true)
    (a_L_words : PySem.W.nsIn K mainGlobals "_law_words" = some (some (.ref f_L_words))) (l_L_words : K.lookup f_L_words = some ⟨oc_L_words, od_L_words, .func (PySem.W.fnOf "_law_words" "_law_words" (defArgs s_L_words) (defBody s_L_words) (defScope s_L_words) .none kV_L_words dc_L_words pm_L_words an_L_words cd_L_words ct_L_words), sl_L_words⟩) (c_L_words : PySem.W.codeIn K cd_L_words "_law_words" = true) (k_L_words : PySem.W.keepIn K (.ref f_L_words) = true)
    (a_L_name : PySem.W.nsIn K mainGlobals "_law_name" = some (some (.ref f_L_name))) (l_L_name : K.lookup f_L_name = some ⟨oc_L_name, od_L_name, .func (PySem.W.fnOf "_law_name" "_law_name" (defArgs s_L_name) (defBody s_L_name) (defScope s_L_name) .none kV_L_name dc_L_name pm_L_name an_L_name cd_L_name ct_L_name), sl_L_name⟩) (c_L_name : PySem.W.codeIn K cd_L_name "_law_name" = true) (k_L_name : PySem.W.keepIn K (.ref f_L_name) = true)
    (a_L_is_name : PySem.W.nsIn K mainGlobals "_law_is_name" = some (some (.ref f_L_is_name))) (l_L_is_name : K.lookup f_L_is_name = some ⟨oc_L_is_name, od_L_is_name, .func (PySem.W.fnOf "_law_is_name" "_law_is_name" (defArgs s_L_is_name) (defBody s_L_is_name) (defScope s_L_is_name) .none kV_L_is_name dc_L_is_name pm_L_is_name an_L_is_name cd_L_is_name ct_L_is_name), sl_L_is_name⟩) (c_L_is_name : PySem.W.codeIn K cd_L_is_name "_law_is_name" = true) (k_L_is_name : PySem.W.keepIn K (.ref f_L_is_name) = true)
    (a_L_is_within : PySem.W.nsIn K mainGlobals "_law_is_within" = some (some (.ref f_L_is_within))) (l_L_is_within : K.lookup f_L_is_within = some ⟨oc_L_is_within, od_L_is_within, .func (PySem.W.fnOf "_law_is_within" "_law_is_within" (defArgs s_L_is_within) (defBody s_L_is_within) (defScope s_L_is_within) .none kV_L_is_within dc_L_is_within pm_L_is_within an_L_is_within cd_L_is_within ct_L_is_within), sl_L_is_within⟩) (c_L_is_within : PySem.W.codeIn K cd_L_is_within "_law_is_within" = true) (k_L_is_within : PySem.W.keepIn K (.ref f_L_is_within) = true)
    (a_L_odd : PySem.W.nsIn K mainGlobals "_law_odd" = some (some (.ref f_L_odd))) (l_L_odd : K.lookup f_L_odd = some ⟨oc_L_odd, od_L_odd, .func (PySem.W.fnOf "_law_odd" "_law_odd" (defArgs s_L_odd) (defBody s_L_odd) (defScope s_L_odd) .none kV_L_odd dc_L_odd pm_L_odd an_L_odd cd_L_odd ct_L_odd), sl_L_odd⟩) (c_L_odd : PySem.W.codeIn K cd_L_odd "_law_odd" = true) (k_L_odd : PySem.W.keepIn K (.ref f_L_odd) = true)
    (a_L_bent : PySem.W.nsIn K mainGlobals "_law_bent" = some (some (.ref f_L_bent))) (l_L_bent : K.lookup f_L_bent = some ⟨oc_L_bent, od_L_bent, .func (PySem.W.fnOf "_law_bent" "_law_bent" (defArgs s_L_bent) (defBody s_L_bent) (defScope s_L_bent) .none kV_L_bent dc_L_bent pm_L_bent an_L_bent cd_L_bent ct_L_bent), sl_L_bent⟩) (c_L_bent : PySem.W.codeIn K cd_L_bent "_law_bent" = true) (k_L_bent : PySem.W.keepIn K (.ref f_L_bent) = true)
    (a_L_word : PySem.W.nsIn K mainGlobals "_law_word" = some (some (.ref f_L_word))) (l_L_word : K.lookup f_L_word = some ⟨oc_L_word, od_L_word, .func (PySem.W.fnOf "_law_word" "_law_word" (defArgs s_L_word) (defBody s_L_word) (defScope s_L_word) .none kV_L_word dc_L_word pm_L_word an_L_word cd_L_word ct_L_word), sl_L_word⟩) (c_L_word : PySem.W.codeIn K cd_L_word "_law_word" = true) (k_L_word : PySem.W.keepIn K (.ref f_L_word) = true)
    (a_L_names : PySem.W.nsIn K mainGlobals "_law_names" = some (some (.ref f_L_names))) (l_L_names : K.lookup f_L_names = some ⟨oc_L_names, od_L_names, .func (PySem.W.fnOf "_law_names" "_law_names" (defArgs s_L_names) (defBody s_L_names) (defScope s_L_names) .none kV_L_names dc_L_names pm_L_names an_L_names cd_L_names ct_L_names), sl_L_names⟩) (c_L_names : PySem.W.codeIn K cd_L_names "_law_names" = true) (k_L_names : PySem.W.keepIn K (.ref f_L_names) = true)
    (a_L_piece : PySem.W.nsIn K mainGlobals "_law_piece" = some (some (.ref f_L_piece))) (l_L_piece : K.lookup f_L_piece = some ⟨oc_L_piece, od_L_piece, .func (PySem.W.fnOf "_law_piece" "_law_piece" (defArgs s_L_piece) (defBody s_L_piece) (defScope s_L_piece) .none kV_L_piece dc_L_piece pm_L_piece an_L_piece cd_L_piece ct_L_piece), sl_L_piece⟩) (c_L_piece : PySem.W.codeIn K cd_L_piece "_law_piece" = true) (k_L_piece : PySem.W.keepIn K (.ref f_L_piece) = true)
    (a_L_drawn : PySem.W.nsIn K mainGlobals "_law_drawn" = some (some (.ref f_L_drawn))) (l_L_drawn : K.lookup f_L_drawn = some ⟨oc_L_drawn, od_L_drawn, .func (PySem.W.fnOf "_law_drawn" "_law_drawn" (defArgs s_L_drawn) (defBody s_L_drawn) (defScope s_L_drawn) .none kV_L_drawn dc_L_drawn pm_L_drawn an_L_drawn cd_L_drawn ct_L_drawn), sl_L_drawn⟩) (c_L_drawn : PySem.W.codeIn K cd_L_drawn "_law_drawn" = true) (k_L_drawn : PySem.W.keepIn K (.ref f_L_drawn) = true)
    (a_L_condition : PySem.W.nsIn K mainGlobals "_law_condition" = some (some (.ref f_L_condition))) (l_L_condition : K.lookup f_L_condition = some ⟨oc_L_condition, od_L_condition, .func (PySem.W.fnOf "_law_condition" "_law_condition" (defArgs s_L_condition) (defBody s_L_condition) (defScope s_L_condition) .none kV_L_condition dc_L_condition pm_L_condition an_L_condition cd_L_condition ct_L_condition), sl_L_condition⟩) (c_L_condition : PySem.W.codeIn K cd_L_condition "_law_condition" = true) (k_L_condition : PySem.W.keepIn K (.ref f_L_condition) = true)
    (a_L_pieces : PySem.W.nsIn K mainGlobals "_law_pieces" = some (some (.ref f_L_pieces))) (l_L_pieces : K.lookup f_L_pieces = some ⟨oc_L_pieces, od_L_pieces, .func (PySem.W.fnOf "_law_pieces" "_law_pieces" (defArgs s_L_pieces) (defBody s_L_pieces) (defScope s_L_pieces) .none kV_L_pieces dc_L_pieces pm_L_pieces an_L_pieces cd_L_pieces ct_L_pieces), sl_L_pieces⟩) (c_L_pieces : PySem.W.codeIn K cd_L_pieces "_law_pieces" = true) (k_L_pieces : PySem.W.keepIn K (.ref f_L_pieces) = true)
    (a_L_is_condition : PySem.W.nsIn K mainGlobals "_law_is_condition" = some (some (.ref f_L_is_condition))) (l_L_is_condition : K.lookup f_L_is_condition = some ⟨oc_L_is_condition, od_L_is_condition, .func (PySem.W.fnOf "_law_is_condition" "_law_is_condition" (defArgs s_L_is_condition) (defBody s_L_is_condition) (defScope s_L_is_condition) .none kV_L_is_condition dc_L_is_condition pm_L_is_condition an_L_is_condition cd_L_is_condition ct_L_is_condition), sl_L_is_condition⟩) (c_L_is_condition : PySem.W.codeIn K cd_L_is_condition "_law_is_condition" = true) (k_L_is_condition : PySem.W.keepIn K (.ref f_L_is_condition) = true)
    (a_L_holds : PySem.W.nsIn K mainGlobals "_law_holds" = some (some (.ref f_L_holds))) (l_L_holds : K.lookup f_L_holds = some ⟨oc_L_holds, od_L_holds, .func (PySem.W.fnOf "_law_holds" "_law_holds" (defArgs s_L_holds) (defBody s_L_holds) (defScope s_L_holds) .none kV_L_holds dc_L_holds pm_L_holds an_L_holds cd_L_holds ct_L_holds), sl_L_holds⟩) (c_L_holds : PySem.W.codeIn K cd_L_holds "_law_holds" = true) (k_L_holds : PySem.W.keepIn K (.ref f_L_holds) = true)
    (a_L_taken : PySem.W.nsIn K mainGlobals "_law_taken" = some (some (.ref f_L_taken))) (l_L_taken : K.lookup f_L_taken = some ⟨oc_L_taken, od_L_taken, .func (PySem.W.fnOf "_law_taken" "_law_taken" (defArgs s_L_taken) (defBody s_L_taken) (defScope s_L_taken) .none kV_L_taken dc_L_taken pm_L_taken an_L_taken cd_L_taken ct_L_taken), sl_L_taken⟩) (c_L_taken : PySem.W.codeIn K cd_L_taken "_law_taken" = true) (k_L_taken : PySem.W.keepIn K (.ref f_L_taken) = true)
    (a_L_folk : PySem.W.nsIn K mainGlobals "_law_folk" = some (some (.ref f_L_folk))) (l_L_folk : K.lookup f_L_folk = some ⟨oc_L_folk, od_L_folk, .func (PySem.W.fnOf "_law_folk" "_law_folk" (defArgs s_L_folk) (defBody s_L_folk) (defScope s_L_folk) .none kV_L_folk dc_L_folk pm_L_folk an_L_folk cd_L_folk ct_L_folk), sl_L_folk⟩) (c_L_folk : PySem.W.codeIn K cd_L_folk "_law_folk" = true) (k_L_folk : PySem.W.keepIn K (.ref f_L_folk) = true)
    (a_L_told : PySem.W.nsIn K mainGlobals "_law_told" = some (some (.ref f_L_told))) (l_L_told : K.lookup f_L_told = some ⟨oc_L_told, od_L_told, .func (PySem.W.fnOf "_law_told" "_law_told" (defArgs s_L_told) (defBody s_L_told) (defScope s_L_told) .none kV_L_told dc_L_told pm_L_told an_L_told cd_L_told ct_L_told), sl_L_told⟩) (c_L_told : PySem.W.codeIn K cd_L_told "_law_told" = true) (k_L_told : PySem.W.keepIn K (.ref f_L_told) = true)
    (a_L_asked_right : PySem.W.nsIn K mainGlobals "_law_asked_right" = some (some (.ref f_L_asked_right))) (l_L_asked_right : K.lookup f_L_asked_right = some ⟨oc_L_asked_right, od_L_asked_right, .func (PySem.W.fnOf "_law_asked_right" "_law_asked_right" (defArgs s_L_asked_right) (defBody s_L_asked_right) (defScope s_L_asked_right) .none kV_L_asked_right dc_L_asked_right pm_L_asked_right an_L_asked_right cd_L_asked_right ct_L_asked_right), sl_L_asked_right⟩) (c_L_asked_right : PySem.W.codeIn K cd_L_asked_right "_law_asked_right" = true) (k_L_asked_right : PySem.W.keepIn K (.ref f_L_asked_right) = true)
    (a_law : PySem.W.nsIn K mainGlobals "law" = some (some (.ref f_law))) (l_law : K.lookup f_law = some ⟨oc_law, od_law, .func (PySem.W.fnOf "law" "law" (defArgs s_law) (defBody s_law) (defScope s_law) .none kV_law dc_law pm_law an_law cd_law ct_law), sl_law⟩) (c_law : PySem.W.codeIn K cd_law "law" = true) (k_law : PySem.W.keepIn K (.ref f_law) = true)
    (z_isinstance : PySem.W.nsIn K mainGlobals "isinstance" = some none)
    (z_int : PySem.W.nsIn K mainGlobals "int" = some none)
    (z_bool : PySem.W.nsIn K mainGlobals "bool" = some none)
    (z_all : PySem.W.nsIn K mainGlobals "all" = some none)
    (z_str : PySem.W.nsIn K mainGlobals "str" = some none)
    (z_len : PySem.W.nsIn K mainGlobals "len" = some none)
    (z_tuple : PySem.W.nsIn K mainGlobals "tuple" = some none)
    (z_sum : PySem.W.nsIn K mainGlobals "sum" = some none)
    (z_any : PySem.W.nsIn K mainGlobals "any" = some none)
    (z_range : PySem.W.nsIn K mainGlobals "range" = some none)
    (z_abs : PySem.W.nsIn K mainGlobals "abs" = some none)
    (z_max : PySem.W.nsIn K mainGlobals "max" = some none)
    (z_list : PySem.W.nsIn K mainGlobals "list" = some none)
    (z_ValueError : PySem.W.nsIn K mainGlobals "ValueError" = some none)
    (z_min : PySem.W.nsIn K mainGlobals "min" = some none)
    (z_dict : PySem.W.nsIn K mainGlobals "dict" = some none)
    (z_repr : PySem.W.nsIn K mainGlobals "repr" = some none)
    (w_MOST_NUMBER : PySem.W.nsIn K mainGlobals "MOST_NUMBER" = some (some u_MOST_NUMBER)) (r_MOST_NUMBER : chkD K 60 u_MOST_NUMBER k_MOST_NUMBER = true)
    (w_WORDS : PySem.W.nsIn K mainGlobals "WORDS" = some (some u_WORDS)) (r_WORDS : chkD K 60 u_WORDS k_WORDS = true)
    (w_MOST_LETTERS : PySem.W.nsIn K mainGlobals "MOST_LETTERS" = some (some u_MOST_LETTERS)) (r_MOST_LETTERS : chkD K 60 u_MOST_LETTERS k_MOST_LETTERS = true)
    (w_LETTERS : PySem.W.nsIn K mainGlobals "LETTERS" = some (some u_LETTERS)) (r_LETTERS : chkD K 60 u_LETTERS k_LETTERS = true)
    (w_PIECES : PySem.W.nsIn K mainGlobals "PIECES" = some (some (.ref dt_PIECES))) (at_PIECES : K.lookup dt_PIECES = some ⟨.type "dict", none, .dict et_PIECES nt_PIECES, #[]⟩) (li_PIECES : PySem.W.KeysLit w.params et_PIECES.toList) (lo_PIECES : (dt_PIECES == sysModules) = false) (r_PIECES : chkK et_PIECES.toList ["is", "has", "from", "to"] = true) (rf_PIECES : chkKF et_PIECES.toList [("is", f_holds_is), ("has", f_holds_has), ("from", f_holds_from), ("to", f_holds_to)] = true)
    (w_MOST_PARTS : PySem.W.nsIn K mainGlobals "MOST_PARTS" = some (some u_MOST_PARTS)) (r_MOST_PARTS : chkD K 60 u_MOST_PARTS k_MOST_PARTS = true)
    (w_MOST_DEEP : PySem.W.nsIn K mainGlobals "MOST_DEEP" = some (some u_MOST_DEEP)) (r_MOST_DEEP : chkD K 60 u_MOST_DEEP k_MOST_DEEP = true)
    (w_MOST_PIECES : PySem.W.nsIn K mainGlobals "MOST_PIECES" = some (some u_MOST_PIECES)) (r_MOST_PIECES : chkD K 60 u_MOST_PIECES k_MOST_PIECES = true)
    (w_NoCondition : PySem.W.nsIn K mainGlobals "NoCondition" = some (some (.ref C_NoCondition)))
    (w_AskError : PySem.W.nsIn K mainGlobals "AskError" = some (some (.ref C_AskError)))
    (w_NoKind : PySem.W.nsIn K mainGlobals "NoKind" = some (some (.ref C_NoKind)))
    (w_NoValue : PySem.W.nsIn K mainGlobals "NoValue" = some (some (.ref C_NoValue)))
    (w_NoForm : PySem.W.nsIn K mainGlobals "NoForm" = some (some (.ref C_NoForm)))
    (w_NoKey : PySem.W.nsIn K mainGlobals "NoKey" = some (some (.ref C_NoKey)))
    (w_TooWide : PySem.W.nsIn K mainGlobals "TooWide" = some (some (.ref C_TooWide)))
    (w_Stuck : PySem.W.nsIn K mainGlobals "Stuck" = some (some (.ref C_Stuck)))
    (w_NoBook : PySem.W.nsIn K mainGlobals "NoBook" = some (some (.ref C_NoBook)))
    (w_Clash : PySem.W.nsIn K mainGlobals "Clash" = some (some (.ref C_Clash)))
    (w_Full : PySem.W.nsIn K mainGlobals "Full" = some (some (.ref C_Full)))
    (w_NoNames : PySem.W.nsIn K mainGlobals "NoNames" = some (some (.ref C_NoNames)))
    (w_NoEntry : PySem.W.nsIn K mainGlobals "NoEntry" = some (some (.ref C_NoEntry)))
    (w_NoCheck : PySem.W.nsIn K mainGlobals "NoCheck" = some (some (.ref C_NoCheck)))
    (w_Twice : PySem.W.nsIn K mainGlobals "Twice" = some (some (.ref C_Twice)))
    (w_NoLines : PySem.W.nsIn K mainGlobals "NoLines" = some (some (.ref C_NoLines)))
    (w_NoRound : PySem.W.nsIn K mainGlobals "NoRound" = some (some (.ref C_NoRound)))
    (w_NoWeights : PySem.W.nsIn K mainGlobals "NoWeights" = some (some (.ref C_NoWeights)))
    (w_NoTable : PySem.W.nsIn K mainGlobals "NoTable" = some (some (.ref C_NoTable)))
    (w_NoFits : PySem.W.nsIn K mainGlobals "NoFits" = some (some (.ref C_NoFits)))
    (w_NoTotals : PySem.W.nsIn K mainGlobals "NoTotals" = some (some (.ref C_NoTotals)))
    (w_NoCounts : PySem.W.nsIn K mainGlobals "NoCounts" = some (some (.ref C_NoCounts)))
    (w_NoPlaces : PySem.W.nsIn K mainGlobals "NoPlaces" = some (some (.ref C_NoPlaces)))
    (w_NoPlace : PySem.W.nsIn K mainGlobals "NoPlace" = some (some (.ref C_NoPlace)))
    (w_NoText : PySem.W.nsIn K mainGlobals "NoText" = some (some (.ref C_NoText)))
    (w_NoLine : PySem.W.nsIn K mainGlobals "NoLine" = some (some (.ref C_NoLine)))
    (w_CannotGo : PySem.W.nsIn K mainGlobals "CannotGo" = some (some (.ref C_CannotGo)))
    (w_NoRecord : PySem.W.nsIn K mainGlobals "NoRecord" = some (some (.ref C_NoRecord)))
    (w_NoFit : PySem.W.nsIn K mainGlobals "NoFit" = some (some (.ref C_NoFit)))
    (kp_NoCondition : PySem.W.keepIn K (.ref C_NoCondition) = true)
    (xi_NoCondition : PySem.W.excIn K C_NoCondition [.type "ValueError", .type "Exception", .type "BaseException", .type "object"] "ValueError.__new__" = true)
    (ty_NoCondition : PySem.W.typeIn K (.ref C_NoCondition) = some (.type "type"))
    (hg_NoCondition : PySem.W.findIn K (.ref C_NoCondition) "__getattribute__" = some (some (.builtin "BaseException.__getattribute__")))
    (hk_NoCondition : PySem.W.findIn K (.ref C_NoCondition) "__getattr__" = some none)
    (hs_NoCondition : PySem.W.subIn K (.ref C_NoCondition) (.type "BaseException") = some true)
    (hd_NoCondition : PySem.W.hasDictIn K C_NoCondition = true)
    (ha_NoCondition : PySem.W.findIn K (.ref C_NoCondition) "__class__" = some (some (.builtin "object.__class__")))
    (hn_NoCondition : PySem.W.specialIn K (.builtin "object.__class__") "__get__" = some (some (.builtin "getset_descriptor.__get__")))
    (ht_NoCondition : PySem.W.takesIn K (.builtin "object.__class__") = some true)
    (hm_NoCondition : PySem.W.mroIn K C_NoCondition (.type "object") = some true)
    (em_NoCondition_AskError : PySem.W.exmOne K (.ref C_NoCondition) (.ref C_AskError) = some true)
    (ka_NoCondition : kAll K (.ref C_NoCondition) [(.ref C_NoKind, false), (.ref C_NoValue, false), (.ref C_NoCondition, true), (.ref C_NoForm, false), (.ref C_NoKey, false), (.ref C_TooWide, false), (.ref C_Stuck, false), (.ref C_NoBook, false), (.ref C_Clash, false), (.ref C_Full, false), (.ref C_NoNames, false), (.ref C_NoEntry, false), (.ref C_NoCheck, false), (.ref C_Twice, false), (.ref C_NoLines, false), (.ref C_NoRound, false), (.ref C_NoWeights, false), (.ref C_NoTable, false), (.ref C_NoFits, false), (.ref C_NoTotals, false), (.ref C_NoCounts, false), (.ref C_NoPlaces, false), (.ref C_NoPlace, false), (.ref C_NoText, false), (.ref C_NoLine, false), (.ref C_CannotGo, false), (.ref C_NoRecord, false), (.ref C_NoFit, false), (.type "ValueError", true)])
    (cq : cd_law = .ref cT) (lq : K.lookup cT = some ⟨oq, dq, .fields vq, sq⟩) (vt : vq[11]? = some (.ref TL)) (nq : K.lookup TL = none) :
    ∃ (fd : FuncData) (c T : Addr) (nm : Str), PySem.W.tabIn K "law" = some (c, T) ∧ K.lookup T = none ∧ (∀ (s : Shared) (v : Value), BindsTo s fd ⟨[v], []⟩ [("_law_script", v)]) ∧ ∀ base : Heap, K.In base → base.Ns mainGlobals mg → SysOk base → LamX.TabB base mg c T → FnG ⟨l.prog, w, K, mg, base⟩ 23 fa fd ["_law_script"] (spLawT T nm) := by
  have e := hfa.symm.trans (PySem.W.mg_of X G a_law)
  cases e
  have tq := tab_mk a_law l_law cq lq vt
  refine ⟨PySem.W.fnOf "law" "law" (defArgs s_law) (defBody s_law) (defScope s_law) .none kV_law dc_law pm_law an_law cd_law ct_law, cT, TL, lamQ, tq, nq, fun s v => .of_eq rfl, fun base _ _ hsy tb => ?_⟩
  have T : Txt ⟨l.prog, w, K, mg, base⟩ := ⟨hsy, ⟨⟨_, _, fun_mk (st := s_is_whole) l_is_whole c_is_whole k_is_whole, PySem.W.mg_of X G a_is_whole⟩⟩, ⟨⟨_, _, fun_mk (st := s_is_within) l_is_within c_is_within k_is_within, PySem.W.mg_of X G a_is_within⟩⟩, ⟨⟨_, _, fun_mk (st := s_is_number) l_is_number c_is_number k_is_number, PySem.W.mg_of X G a_is_number⟩⟩, ⟨⟨_, _, fun_mk (st := s_is_name) l_is_name c_is_name k_is_name, PySem.W.mg_of X G a_is_name⟩⟩, ⟨⟨_, _, fun_mk (st := s_holds_is) l_holds_is c_holds_is k_holds_is, PySem.W.mg_of X G a_holds_is⟩⟩, ⟨⟨_, _, fun_mk (st := s_holds_has) l_holds_has c_holds_has k_holds_has, PySem.W.mg_of X G a_holds_has⟩⟩, ⟨⟨_, _, fun_mk (st := s_holds_from) l_holds_from c_holds_from k_holds_from, PySem.W.mg_of X G a_holds_from⟩⟩, ⟨⟨_, _, fun_mk (st := s_holds_to) l_holds_to c_holds_to k_holds_to, PySem.W.mg_of X G a_holds_to⟩⟩, ⟨⟨_, _, fun_mk (st := s_is_piece) l_is_piece c_is_piece k_is_piece, PySem.W.mg_of X G a_is_piece⟩⟩, ⟨⟨_, _, fun_mk (st := s_pieces_of_parts) l_pieces_of_parts c_pieces_of_parts k_pieces_of_parts, PySem.W.mg_of X G a_pieces_of_parts⟩⟩, ⟨⟨_, _, fun_mk (st := s_pieces_in) l_pieces_in c_pieces_in k_pieces_in, PySem.W.mg_of X G a_pieces_in⟩⟩, ⟨⟨_, _, fun_mk (st := s_is_condition) l_is_condition c_is_condition k_is_condition, PySem.W.mg_of X G a_is_condition⟩⟩, ⟨⟨_, _, fun_mk (st := s_need_condition) l_need_condition c_need_condition k_need_condition, PySem.W.mg_of X G a_need_condition⟩⟩, ⟨⟨_, _, fun_mk (st := s_taken_of) l_taken_of c_taken_of k_taken_of, PySem.W.mg_of X G a_taken_of⟩⟩, ⟨⟨_, _, fun_mk (st := s_holds_piece) l_holds_piece c_holds_piece k_holds_piece, PySem.W.mg_of X G a_holds_piece⟩⟩, ⟨⟨_, _, fun_mk (st := s_holds_by) l_holds_by c_holds_by k_holds_by, PySem.W.mg_of X G a_holds_by⟩⟩, pld_of (PySem.W.mg_of X G a_holds) l_holds c_holds k_holds dl_holds rfl dk_holds (by simp), ⟨⟨_, _, fun_mk (st := s_L_pot) l_L_pot c_L_pot k_L_pot, PySem.W.mg_of X G a_L_pot⟩⟩, ⟨⟨_, _, fun_mk (st := s_L_take) l_L_take c_L_take k_L_take, PySem.W.mg_of X G a_L_take⟩⟩, ⟨⟨_, _, fun_mk (st := s_L_words) l_L_words c_L_words k_L_words, PySem.W.mg_of X G a_L_words⟩⟩, ⟨⟨_, _, fun_mk (st := s_L_name) l_L_name c_L_name k_L_name, PySem.W.mg_of X G a_L_name⟩⟩, ⟨⟨_, _, fun_mk (st := s_L_is_name) l_L_is_name c_L_is_name k_L_is_name, PySem.W.mg_of X G a_L_is_name⟩⟩, ⟨⟨_, _, fun_mk (st := s_L_is_within) l_L_is_within c_L_is_within k_L_is_within, PySem.W.mg_of X G a_L_is_within⟩⟩, ⟨⟨_, _, fun_mk (st := s_L_odd) l_L_odd c_L_odd k_L_odd, PySem.W.mg_of X G a_L_odd⟩⟩, ⟨⟨_, _, fun_mk (st := s_L_bent) l_L_bent c_L_bent k_L_bent, PySem.W.mg_of X G a_L_bent⟩⟩, ⟨⟨_, _, fun_mk (st := s_L_word) l_L_word c_L_word k_L_word, PySem.W.mg_of X G a_L_word⟩⟩, ⟨⟨_, _, fun_mk (st := s_L_names) l_L_names c_L_names k_L_names, PySem.W.mg_of X G a_L_names⟩⟩, ⟨⟨_, _, fun_mk (st := s_L_piece) l_L_piece c_L_piece k_L_piece, PySem.W.mg_of X G a_L_piece⟩⟩, ⟨⟨_, _, fun_mk (st := s_L_drawn) l_L_drawn c_L_drawn k_L_drawn, PySem.W.mg_of X G a_L_drawn⟩⟩, ⟨⟨_, _, fun_mk (st := s_L_condition) l_L_condition c_L_condition k_L_condition, PySem.W.mg_of X G a_L_condition⟩⟩, ⟨⟨_, _, fun_mk (st := s_L_pieces) l_L_pieces c_L_pieces k_L_pieces, PySem.W.mg_of X G a_L_pieces⟩⟩, ⟨⟨_, _, fun_mk (st := s_L_is_condition) l_L_is_condition c_L_is_condition k_L_is_condition, PySem.W.mg_of X G a_L_is_condition⟩⟩, ⟨⟨_, _, fun_mk (st := s_L_holds) l_L_holds c_L_holds k_L_holds, PySem.W.mg_of X G a_L_holds⟩⟩, ⟨⟨_, _, fun_mk (st := s_L_taken) l_L_taken c_L_taken k_L_taken, PySem.W.mg_of X G a_L_taken⟩⟩, ⟨⟨_, _, fun_mk (st := s_L_folk) l_L_folk c_L_folk k_L_folk, PySem.W.mg_of X G a_L_folk⟩⟩, ⟨⟨_, _, fun_mk (st := s_L_told) l_L_told c_L_told k_L_told, PySem.W.mg_of X G a_L_told⟩⟩, ⟨⟨_, _, fun_mk (st := s_L_asked_right) l_L_asked_right c_L_asked_right k_L_asked_right, PySem.W.mg_of X G a_L_asked_right⟩⟩, ⟨⟨_, _, fun_mk (st := s_law) l_law c_law k_law, PySem.W.mg_of X G a_law⟩⟩, PySem.W.mg_none_of X G z_isinstance, PySem.W.mg_none_of X G z_int, PySem.W.mg_none_of X G z_bool, PySem.W.mg_none_of X G z_all, PySem.W.mg_none_of X G z_str, PySem.W.mg_none_of X G z_len, PySem.W.mg_none_of X G z_tuple, PySem.W.mg_none_of X G z_sum, PySem.W.mg_none_of X G z_any, PySem.W.mg_none_of X G z_range, PySem.W.mg_none_of X G z_abs, PySem.W.mg_none_of X G z_max, PySem.W.mg_none_of X G z_list, PySem.W.mg_none_of X G z_ValueError, PySem.W.mg_none_of X G z_min, PySem.W.mg_none_of X G z_dict, PySem.W.mg_none_of X G z_repr, .inl ⟨_, PySem.W.mg_of X G w_NoKind⟩, .inl ⟨_, PySem.W.mg_of X G w_NoValue⟩, .inl ⟨_, PySem.W.mg_of X G w_NoCondition⟩, .inl ⟨_, PySem.W.mg_of X G w_NoForm⟩, .inl ⟨_, PySem.W.mg_of X G w_NoKey⟩, .inl ⟨_, PySem.W.mg_of X G w_TooWide⟩, .inl ⟨_, PySem.W.mg_of X G w_Stuck⟩, .inl ⟨_, PySem.W.mg_of X G w_NoBook⟩, .inl ⟨_, PySem.W.mg_of X G w_Clash⟩, .inl ⟨_, PySem.W.mg_of X G w_Full⟩, .inl ⟨_, PySem.W.mg_of X G w_NoNames⟩, .inl ⟨_, PySem.W.mg_of X G w_NoEntry⟩, .inl ⟨_, PySem.W.mg_of X G w_NoCheck⟩, .inl ⟨_, PySem.W.mg_of X G w_Twice⟩, .inl ⟨_, PySem.W.mg_of X G w_NoLines⟩, .inl ⟨_, PySem.W.mg_of X G w_NoRound⟩, .inl ⟨_, PySem.W.mg_of X G w_NoWeights⟩, .inl ⟨_, PySem.W.mg_of X G w_NoTable⟩, .inl ⟨_, PySem.W.mg_of X G w_NoFits⟩, .inl ⟨_, PySem.W.mg_of X G w_NoTotals⟩, .inl ⟨_, PySem.W.mg_of X G w_NoCounts⟩, .inl ⟨_, PySem.W.mg_of X G w_NoPlaces⟩, .inl ⟨_, PySem.W.mg_of X G w_NoPlace⟩, .inl ⟨_, PySem.W.mg_of X G w_NoText⟩, .inl ⟨_, PySem.W.mg_of X G w_NoLine⟩, .inl ⟨_, PySem.W.mg_of X G w_CannotGo⟩, .inl ⟨_, PySem.W.mg_of X G w_NoRecord⟩, .inl ⟨_, PySem.W.mg_of X G w_NoFit⟩, .inr ⟨PySem.W.mg_none_of X G z_ValueError, _, rfl⟩, ⟨⟨_, PySem.W.mg_of X G w_NoCondition, kp_NoCondition, xi_NoCondition, ty_NoCondition, ⟨hg_NoCondition, hk_NoCondition, hs_NoCondition, hd_NoCondition, ha_NoCondition, hn_NoCondition, ht_NoCondition, hm_NoCondition⟩⟩⟩, enm_of (PySem.W.mg_of X G w_AskError), exm_of (PySem.W.mg_of X G w_NoCondition) (PySem.W.mg_of X G w_AskError) em_NoCondition_AskError, isAll_of (PySem.W.mg_of X G w_NoCondition) ⟨hg_NoCondition, hk_NoCondition, hs_NoCondition, hd_NoCondition, ha_NoCondition, hn_NoCondition, ht_NoCondition, hm_NoCondition⟩ (ps := [("NoKind", _, false), ("NoValue", _, false), ("NoCondition", _, true), ("NoForm", _, false), ("NoKey", _, false), ("TooWide", _, false), ("Stuck", _, false), ("NoBook", _, false), ("Clash", _, false), ("Full", _, false), ("NoNames", _, false), ("NoEntry", _, false), ("NoCheck", _, false), ("Twice", _, false), ("NoLines", _, false), ("NoRound", _, false), ("NoWeights", _, false), ("NoTable", _, false), ("NoFits", _, false), ("NoTotals", _, false), ("NoCounts", _, false), ("NoPlaces", _, false), ("NoPlace", _, false), ("NoText", _, false), ("NoLine", _, false), ("CannotGo", _, false), ("NoRecord", _, false), ("NoFit", _, false), ("ValueError", _, true)]) ⟨.inl ⟨PySem.W.mg_of X G w_NoKind, _, rfl⟩, ⟨.inl ⟨PySem.W.mg_of X G w_NoValue, _, rfl⟩, ⟨.inl ⟨PySem.W.mg_of X G w_NoCondition, _, rfl⟩, ⟨.inl ⟨PySem.W.mg_of X G w_NoForm, _, rfl⟩, ⟨.inl ⟨PySem.W.mg_of X G w_NoKey, _, rfl⟩, ⟨.inl ⟨PySem.W.mg_of X G w_TooWide, _, rfl⟩, ⟨.inl ⟨PySem.W.mg_of X G w_Stuck, _, rfl⟩, ⟨.inl ⟨PySem.W.mg_of X G w_NoBook, _, rfl⟩, ⟨.inl ⟨PySem.W.mg_of X G w_Clash, _, rfl⟩, ⟨.inl ⟨PySem.W.mg_of X G w_Full, _, rfl⟩, ⟨.inl ⟨PySem.W.mg_of X G w_NoNames, _, rfl⟩, ⟨.inl ⟨PySem.W.mg_of X G w_NoEntry, _, rfl⟩, ⟨.inl ⟨PySem.W.mg_of X G w_NoCheck, _, rfl⟩, ⟨.inl ⟨PySem.W.mg_of X G w_Twice, _, rfl⟩, ⟨.inl ⟨PySem.W.mg_of X G w_NoLines, _, rfl⟩, ⟨.inl ⟨PySem.W.mg_of X G w_NoRound, _, rfl⟩, ⟨.inl ⟨PySem.W.mg_of X G w_NoWeights, _, rfl⟩, ⟨.inl ⟨PySem.W.mg_of X G w_NoTable, _, rfl⟩, ⟨.inl ⟨PySem.W.mg_of X G w_NoFits, _, rfl⟩, ⟨.inl ⟨PySem.W.mg_of X G w_NoTotals, _, rfl⟩, ⟨.inl ⟨PySem.W.mg_of X G w_NoCounts, _, rfl⟩, ⟨.inl ⟨PySem.W.mg_of X G w_NoPlaces, _, rfl⟩, ⟨.inl ⟨PySem.W.mg_of X G w_NoPlace, _, rfl⟩, ⟨.inl ⟨PySem.W.mg_of X G w_NoText, _, rfl⟩, ⟨.inl ⟨PySem.W.mg_of X G w_NoLine, _, rfl⟩, ⟨.inl ⟨PySem.W.mg_of X G w_CannotGo, _, rfl⟩, ⟨.inl ⟨PySem.W.mg_of X G w_NoRecord, _, rfl⟩, ⟨.inl ⟨PySem.W.mg_of X G w_NoFit, _, rfl⟩, ⟨.inr ⟨PySem.W.mg_none_of X G z_ValueError, _, rfl, rfl⟩, trivial⟩⟩⟩⟩⟩⟩⟩⟩⟩⟩⟩⟩⟩⟩⟩⟩⟩⟩⟩⟩⟩⟩⟩⟩⟩⟩⟩⟩⟩ ka_NoCondition, ⟨_, kfn_of (PySem.W.mg_of X G w_PIECES) at_PIECES li_PIECES lo_PIECES rf_PIECES (.cons (PySem.W.mg_of X G a_holds_is) (.cons (PySem.W.mg_of X G a_holds_has) (.cons (PySem.W.mg_of X G a_holds_from) (.cons (PySem.W.mg_of X G a_holds_to) FnL.nil))))⟩, cst_of (PySem.W.mg_of X G w_MOST_NUMBER) r_MOST_NUMBER, cst_of (PySem.W.mg_of X G w_WORDS) r_WORDS, cst_of (PySem.W.mg_of X G w_MOST_LETTERS) r_MOST_LETTERS, cst_of (PySem.W.mg_of X G w_LETTERS) r_LETTERS, ⟨_, ktab_of (PySem.W.mg_of X G w_PIECES) at_PIECES li_PIECES lo_PIECES r_PIECES⟩, cst_of (PySem.W.mg_of X G w_MOST_PARTS) r_MOST_PARTS, cst_of (PySem.W.mg_of X G w_MOST_DEEP) r_MOST_DEEP, cst_of (PySem.W.mg_of X G w_MOST_PIECES) r_MOST_PIECES⟩
  exact law_ok T (fun_mk (st := s_law) l_law c_law k_law) tb (PySem.W.law_code X G tq hfa (X _ _ l_law) rfl)
end Ms
open PySem PySem.W PyProof.Rows
set_option maxRecDepth 100000 in
set_option maxHeartbeats 0 in
theorem PySem.Challenge.cw_askround_k07_what_holds_holds : PySem.Challenge.rw_askround_k07_what_holds.Holds := by
  w_on; o_law; k_head; (case hw => w_witness2)
  k_fill
  refine Dl.law_walkT (l := PySem.Challenge.rw_askround_k07_what_holds) (k := 23) (x := "_law_script") rfl rfl ⟨rfl, by decide, by decide⟩ (by first | rfl | decide +kernel) (by first | rfl | decide +kernel) (fun w h Y => PySem.W.km_in_of Y) ?F
  case F =>
    intro w mg fa h KX G hmg
    refine' Ms.all_mk KX G hmg ?a_is_whole ?l_is_whole ?c_is_whole ?k_is_whole ?a_is_within ?l_is_within ?c_is_within ?k_is_within ?a_is_number ?l_is_number ?c_is_number ?k_is_number ?a_is_name ?l_is_name ?c_is_name ?k_is_name ?a_holds_is ?l_holds_is ?c_holds_is ?k_holds_is ?a_holds_has ?l_holds_has ?c_holds_has ?k_holds_has ?a_holds_from ?l_holds_from ?c_holds_from ?k_holds_from ?a_holds_to ?l_holds_to ?c_holds_to ?k_holds_to ?a_is_piece ?l_is_piece ?c_is_piece ?k_is_piece ?a_pieces_of_parts ?l_pieces_of_parts ?c_pieces_of_parts ?k_pieces_of_parts ?a_pieces_in ?l_pieces_in ?c_pieces_in ?k_pieces_in ?a_is_condition ?l_is_condition ?c_is_condition ?k_is_condition ?a_need_condition ?l_need_condition ?c_need_condition ?k_need_condition ?a_taken_of ?l_taken_of ?c_taken_of ?k_taken_of ?a_holds_piece ?l_holds_piece ?c_holds_piece ?k_holds_piece ?a_holds_by ?l_holds_by ?c_holds_by ?k_holds_by ?a_holds ?l_holds ?c_holds ?k_holds ?dl_holds ?dk_holds ?a_L_pot ?l_L_pot ?c_L_pot ?k_L_pot ?a_L_take ?l_L_take ?c_L_take ?k_L_take ?a_L_words ?l_L_words ?c_L_words ?k_L_words ?a_L_name ?l_L_name ?c_L_name ?k_L_name ?a_L_is_name ?l_L_is_name ?c_L_is_name ?k_L_is_name ?a_L_is_within ?l_L_is_within ?c_L_is_within ?k_L_is_within ?a_L_odd ?l_L_odd ?c_L_odd ?k_L_odd ?a_L_bent ?l_L_bent ?c_L_bent ?k_L_bent ?a_L_word ?l_L_word ?c_L_word ?k_L_word ?a_L_names ?l_L_names ?c_L_names ?k_L_names ?a_L_piece ?l_L_piece ?c_L_piece ?k_L_piece ?a_L_drawn ?l_L_drawn ?c_L_drawn ?k_L_drawn ?a_L_condition ?l_L_condition ?c_L_condition ?k_L_condition ?a_L_pieces ?l_L_pieces ?c_L_pieces ?k_L_pieces ?a_L_is_condition ?l_L_is_condition ?c_L_is_condition ?k_L_is_condition ?a_L_holds ?l_L_holds ?c_L_holds ?k_L_holds ?a_L_taken ?l_L_taken ?c_L_taken ?k_L_taken ?a_L_folk ?l_L_folk ?c_L_folk ?k_L_folk ?a_L_told ?l_L_told ?c_L_told ?k_L_told ?a_L_asked_right ?l_L_asked_right ?c_L_asked_right ?k_L_asked_right ?a_law ?l_law ?c_law ?k_law ?z_isinstance ?z_int ?z_bool ?z_all ?z_str ?z_len ?z_tuple ?z_sum ?z_any ?z_range ?z_abs ?z_max ?z_list ?z_ValueError ?z_min ?z_dict ?z_repr ?w_MOST_NUMBER ?r_MOST_NUMBER ?w_WORDS ?r_WORDS ?w_MOST_LETTERS ?r_MOST_LETTERS ?w_LETTERS ?r_LETTERS ?w_PIECES ?at_PIECES ?li_PIECES ?lo_PIECES ?r_PIECES ?rf_PIECES ?w_MOST_PARTS ?r_MOST_PARTS ?w_MOST_DEEP ?r_MOST_DEEP ?w_MOST_PIECES ?r_MOST_PIECES ?w_NoCondition ?w_AskError ?w_NoKind ?w_NoValue ?w_NoForm ?w_NoKey ?w_TooWide ?w_Stuck ?w_NoBook ?w_Clash ?w_Full ?w_NoNames ?w_NoEntry ?w_NoCheck ?w_Twice ?w_NoLines ?w_NoRound ?w_NoWeights ?w_NoTable ?w_NoFits ?w_NoTotals ?w_NoCounts ?w_NoPlaces ?w_NoPlace ?w_NoText ?w_NoLine ?w_CannotGo ?w_NoRecord ?w_NoFit ?kp_NoCondition ?xi_NoCondition ?ty_NoCondition ?hg_NoCondition ?hk_NoCondition ?hs_NoCondition ?hd_NoCondition ?ha_NoCondition ?hn_NoCondition ?ht_NoCondition ?hm_NoCondition ?em_NoCondition_AskError ?ka_NoCondition ?cq ?lq ?vt ?nq
    (case a_is_whole => k_is); (case l_is_whole => k_is); (case c_is_whole => k_is); (case k_is_whole => k_is); (case a_is_within => k_is); (case l_is_within => k_is); (case c_is_within => k_is); (case k_is_within => k_is); (case a_is_number => k_is); (case l_is_number => k_is); (case c_is_number => k_is); (case k_is_number => k_is); (case a_is_name => k_is); (case l_is_name => k_is); (case c_is_name => k_is); (case k_is_name => k_is); (case a_holds_is => k_is); (case l_holds_is => k_is); (case c_holds_is => k_is); (case k_holds_is => k_is); (case a_holds_has => k_is); (case l_holds_has => k_is); (case c_holds_has => k_is); (case k_holds_has => k_is); (case a_holds_from => k_is); (case l_holds_from => k_is); (case c_holds_from => k_is); (case k_holds_from => k_is); (case a_holds_to => k_is); (case l_holds_to => k_is); (case c_holds_to => k_is); (case k_holds_to => k_is); (case a_is_piece => k_is); (case l_is_piece => k_is); (case c_is_piece => k_is); (case k_is_piece => k_is); (case a_pieces_of_parts => k_is); (case l_pieces_of_parts => k_is); (case c_pieces_of_parts => k_is); (case k_pieces_of_parts => k_is); (case a_pieces_in => k_is); (case l_pieces_in => k_is); (case c_pieces_in => k_is); (case k_pieces_in => k_is); (case a_is_condition => k_is); (case l_is_condition => k_is); (case c_is_condition => k_is); (case k_is_condition => k_is); (case a_need_condition => k_is); (case l_need_condition => k_is); (case c_need_condition => k_is); (case k_need_condition => k_is); (case a_taken_of => k_is); (case l_taken_of => k_is); (case c_taken_of => k_is); (case k_taken_of => k_is); (case a_holds_piece => k_is); (case l_holds_piece => k_is); (case c_holds_piece => k_is); (case k_holds_piece => k_is); (case a_holds_by => k_is); (case l_holds_by => k_is); (case c_holds_by => k_is); (case k_holds_by => k_is); (case a_holds => k_is); (case l_holds => k_is); (case c_holds => k_is); (case k_holds => k_is); (case dl_holds => k_is); (case dk_holds => first | decide +kernel | kernel_rfl | exact rfl); (case a_L_pot => k_is); (case l_L_pot => k_is); (case c_L_pot => k_is); (case k_L_pot => k_is); (case a_L_take => k_is); (case l_L_take => k_is); (case c_L_take => k_is); (case k_L_take => k_is); (case a_L_words => k_is); (case l_L_words => k_is); (case c_L_words => k_is); (case k_L_words => k_is); (case a_L_name => k_is); (case l_L_name => k_is); (case c_L_name => k_is); (case k_L_name => k_is); (case a_L_is_name => k_is); (case l_L_is_name => k_is); (case c_L_is_name => k_is); (case k_L_is_name => k_is); (case a_L_is_within => k_is); (case l_L_is_within => k_is); (case c_L_is_within => k_is); (case k_L_is_within => k_is); (case a_L_odd => k_is); (case l_L_odd => k_is); (case c_L_odd => k_is); (case k_L_odd => k_is); (case a_L_bent => k_is); (case l_L_bent => k_is); (case c_L_bent => k_is); (case k_L_bent => k_is); (case a_L_word => k_is); (case l_L_word => k_is); (case c_L_word => k_is); (case k_L_word => k_is); (case a_L_names => k_is); (case l_L_names => k_is); (case c_L_names => k_is); (case k_L_names => k_is); (case a_L_piece => k_is); (case l_L_piece => k_is); (case c_L_piece => k_is); (case k_L_piece => k_is); (case a_L_drawn => k_is); (case l_L_drawn => k_is); (case c_L_drawn => k_is); (case k_L_drawn => k_is); (case a_L_condition => k_is); (case l_L_condition => k_is); (case c_L_condition => k_is); (case k_L_condition => k_is); (case a_L_pieces => k_is); (case l_L_pieces => k_is); (case c_L_pieces => k_is); (case k_L_pieces => k_is); (case a_L_is_condition => k_is); (case l_L_is_condition => k_is); (case c_L_is_condition => k_is); (case k_L_is_condition => k_is); (case a_L_holds => k_is); (case l_L_holds => k_is); (case c_L_holds => k_is); (case k_L_holds => k_is); (case a_L_taken => k_is); (case l_L_taken => k_is); (case c_L_taken => k_is); (case k_L_taken => k_is); (case a_L_folk => k_is); (case l_L_folk => k_is); (case c_L_folk => k_is); (case k_L_folk => k_is); (case a_L_told => k_is); (case l_L_told => k_is); (case c_L_told => k_is); (case k_L_told => k_is); (case a_L_asked_right => k_is); (case l_L_asked_right => k_is); (case c_L_asked_right => k_is); (case k_L_asked_right => k_is); (case a_law => k_is); (case l_law => k_is); (case c_law => k_is); (case k_law => k_is); (case z_isinstance => k_is); (case z_int => k_is); (case z_bool => k_is); (case z_all => k_is); (case z_str => k_is); (case z_len => k_is); (case z_tuple => k_is); (case z_sum => k_is); (case z_any => k_is); (case z_range => k_is); (case z_abs => k_is); (case z_max => k_is); (case z_list => k_is); (case z_ValueError => k_is); (case z_min => k_is); (case z_dict => k_is); (case z_repr => k_is); (case w_MOST_NUMBER => k_is); (case r_MOST_NUMBER => first | decide +kernel | kernel_rfl | exact rfl); (case w_WORDS => k_is); (case r_WORDS => first | decide +kernel | kernel_rfl | exact rfl); (case w_MOST_LETTERS => k_is); (case r_MOST_LETTERS => first | decide +kernel | kernel_rfl | exact rfl); (case w_LETTERS => k_is); (case r_LETTERS => first | decide +kernel | kernel_rfl | exact rfl); (case w_PIECES => k_is); (case at_PIECES => k_is); (case li_PIECES => (repeat (first | exact trivial | refine ⟨⟨_, _, rfl, rfl⟩, ?_⟩))); (case lo_PIECES => first | rfl | decide +kernel); (case r_PIECES => first | decide +kernel | kernel_rfl | exact rfl); (case rf_PIECES => first | decide +kernel | kernel_rfl | exact rfl); (case w_MOST_PARTS => k_is); (case r_MOST_PARTS => first | decide +kernel | kernel_rfl | exact rfl); (case w_MOST_DEEP => k_is); (case r_MOST_DEEP => first | decide +kernel | kernel_rfl | exact rfl); (case w_MOST_PIECES => k_is); (case r_MOST_PIECES => first | decide +kernel | kernel_rfl | exact rfl); (case w_NoCondition => k_is); (case w_AskError => k_is); (case w_NoKind => k_is); (case w_NoValue => k_is); (case w_NoForm => k_is); (case w_NoKey => k_is); (case w_TooWide => k_is); (case w_Stuck => k_is); (case w_NoBook => k_is); (case w_Clash => k_is); (case w_Full => k_is); (case w_NoNames => k_is); (case w_NoEntry => k_is); (case w_NoCheck => k_is); (case w_Twice => k_is); (case w_NoLines => k_is); (case w_NoRound => k_is); (case w_NoWeights => k_is); (case w_NoTable => k_is); (case w_NoFits => k_is); (case w_NoTotals => k_is); (case w_NoCounts => k_is); (case w_NoPlaces => k_is); (case w_NoPlace => k_is); (case w_NoText => k_is); (case w_NoLine => k_is); (case w_CannotGo => k_is); (case w_NoRecord => k_is); (case w_NoFit => k_is); (case kp_NoCondition => k_is); (case xi_NoCondition => k_exc); (case ty_NoCondition => k_is); (case hg_NoCondition => k_is); (case hk_NoCondition => k_is); (case hs_NoCondition => k_is); (case hd_NoCondition => k_is); (case ha_NoCondition => k_is); (case hn_NoCondition => k_is); (case ht_NoCondition => k_is); (case hm_NoCondition => k_is); (case em_NoCondition_AskError => kts_exm); (case ka_NoCondition => (repeat (first | exact trivial | refine ⟨by kit_is, ?_⟩))); (case cq => exact rfl); (case lq => k_is); (case vt => exact rfl); (case nq => first | kernel_rfl | exact rfl | decide +kernel)
