import PyProof.Rows.All
import Wide.All
import OpenK.AllK
import Wide.FinOn
import HandS.ForMost
import HandS.Exc
import HandS.TryOnly
import HandS.ExcOwn
import HandS.Wide
import HandS.Flow
import KE.KDictKeyed
import KE.KeyNested
import KE.KDictDisplayH
import HandS.TupAny
import HandS.TupMul
import HandS.TupLe
import HandS.Style
import HandS.IsInst
import PyProof.ReprLen
import HandS.More
import HandS.ExcIs
import KE.GoesEnum
import HandS.Iter
import HandS.Zip0
import KE.SortData
import KE.DataMinMax
import HandS.Deep
import HandS.RaiseMore
import HandS.Strs
import PySem.Challenge.RW_askround_k11_forms_written
import KE.RegKIsAll
import KE.RegKTryMore
set_option Elab.async false
set_option linter.all false
set_option maxRecDepth 100000
/-! A layer of data over the hand layer: values are trees (PyData), things that may change are addresses. -/
namespace Dl
open PySem PySem.Spec PyProof.Rows L2

inductive W where
  | d (x : PyData)
  | ref (a : Addr)
  /-- a list that is read alone (the script) -/
  | scr (xs : List PyData)
abbrev XF := Option (List (Str × W))
inductive O where
  | lst (xs : List W)
  | ins (C : Addr) (fs : List (Str × W))
  /-- an exception that was caught -/
  | exc (cls : Value) (fs : XF)
  /-- dicts that change -/
  | dK (kvs : List (Key × W))
  | dN (P : Program) (w : World) (kvs : List (NestedKey × W))
  /-- a tuple of what may change -/
  | tup (ws : List W)
abbrev MH := Addr → Option O
def mset (M : MH) (a : Addr) (o : O) : MH := fun b => if b = a then some o else M b
theorem mset_same {M : MH} {a : Addr} {o : O} : mset M a o a = some o := if_pos rfl
theorem mset_ne {M : MH} {a b : Addr} {o : O} (h : b ≠ a) : mset M a o b = M b := if_neg h
def mdel (M : MH) (a : Addr) : MH := fun b => if b = a then none else M b
theorem mdel_same {M : MH} {a : Addr} : mdel M a a = none := if_pos rfl
theorem mdel_ne {M : MH} {a b : Addr} (h : b ≠ a) : mdel M a b = M b := if_neg h

def noH : Hp := fun _ => none
def FL (H : Hp) (M : MH) (a : Addr) (xs : List V) : Prop := H a = some (.lst xs) ∧ M a = none
def FS (K : PySem.W.Frag) (H : Hp) (M : MH) (a : Addr) (xs : List V) : Prop := (Rd H a (.lst xs) ∧ M a = none) ∨ SqL K noH a xs
def FT (K : PySem.W.Frag) (H : Hp) (M : MH) (a : Addr) (xs : List V) : Prop := (Rd H a (.tup xs) ∧ M a = none) ∨ SqT K noH a xs
theorem no_rd {a : Addr} {u : HO} (h : Rd noH a u) : False := by
  rcases h with h | ⟨o, h⟩ <;> cases h
theorem FL.sq {K : PySem.W.Frag} {H : Hp} {M : MH} {a : Addr} {xs : List V} (h : FL H M a xs) : SqL K H a xs := .inl (.inl h.1)
theorem FS.sq {K : PySem.W.Frag} {H : Hp} {M : MH} {a : Addr} {xs : List V} (h : FS K H M a xs) : SqL K H a xs := by
  rcases h with ⟨h, _⟩ | h
  · exact .inl h
  · rcases h with h | h
    · exact (no_rd h).elim
    · exact .inr h
theorem FT.sq {K : PySem.W.Frag} {H : Hp} {M : MH} {a : Addr} {xs : List V} (h : FT K H M a xs) : SqT K H a xs := by
  rcases h with ⟨h, _⟩ | h
  · exact .inl h
  · rcases h with h | h
    · exact (no_rd h).elim
    · exact .inr h
def keyD : Key → PyData
  | .inl i => .int i
  | .inr x => .str x

mutual
/-- v is the datum, and what it is made of does not change any more -/
inductive Fz (K : PySem.W.Frag) (H : Hp) (M : MH) : V → PyData → Prop
  | non : Fz K H M .non .none
  | bl (b : Bool) : Fz K H M (.bl b) (.bool b)
  | int (i : Int) : Fz K H M (.int i) (.int i)
  | str (x : Str) : Fz K H M (.str x) (.str x)
  | lst {a : Addr} {xs : List V} {ds : List PyData} : FL H M a xs → FzA K H M xs ds → Fz K H M (.ref a) (.list ds)
  | tup {a : Addr} {xs : List V} {ds : List PyData} : FT K H M a xs → FzA K H M xs ds → Fz K H M (.ref a) (.tuple ds)
  | dK {a : Addr} {kvs : List (Key × V)} {ds : List (PyData × PyData)} : H a = some (.dK kvs) → M a = none → FzK K H M kvs ds → Fz K H M (.ref a) (.dict ds)
  | dT {a : Addr} {kvs : List (List Key × V)} {ds : List (PyData × PyData)} : H a = some (.dT kvs) → M a = none → FzT K H M kvs ds → Fz K H M (.ref a) (.dict ds)
inductive FzA (K : PySem.W.Frag) (H : Hp) (M : MH) : List V → List PyData → Prop
  | nil : FzA K H M [] []
  | cons {v : V} {d : PyData} {vs : List V} {ds : List PyData} : Fz K H M v d → FzA K H M vs ds → FzA K H M (v :: vs) (d :: ds)
inductive FzK (K : PySem.W.Frag) (H : Hp) (M : MH) : List (Key × V) → List (PyData × PyData) → Prop
  | nil : FzK K H M [] []
  | cons {k : Key} {v : V} {d : PyData} {vs : List (Key × V)} {ds : List (PyData × PyData)} : Fz K H M v d → FzK K H M vs ds → FzK K H M ((k, v) :: vs) ((keyD k, d) :: ds)
inductive FzT (K : PySem.W.Frag) (H : Hp) (M : MH) : List (List Key × V) → List (PyData × PyData) → Prop
  | nil : FzT K H M [] []
  | cons {k : List Key} {v : V} {d : PyData} {vs : List (List Key × V)} {ds : List (PyData × PyData)} : Fz K H M v d → FzT K H M vs ds → FzT K H M ((k, v) :: vs) ((.tuple (k.map keyD), d) :: ds)
end

/-- what does not change stays -/
def Ext (H : Hp) (M : MH) (H' : Hp) (M' : MH) : Prop := ∀ a o, H a = some o → M a = none → H' a = some o ∧ M' a = none
theorem Ext.refl (H : Hp) (M : MH) : Ext H M H M := fun _ _ h m => ⟨h, m⟩
theorem Ext.trans {H H1 H2 : Hp} {M M1 M2 : MH} (e : Ext H M H1 M1) (f : Ext H1 M1 H2 M2) : Ext H M H2 M2 := fun a o h m =>
  let ⟨h1, m1⟩ := e a o h m
  f a o h1 m1

section
variable {K : PySem.W.Frag} {H H' : Hp} {M M' : MH}
theorem Ext.rd (e : Ext H M H' M') {a : Addr} {u : HO} (h : Rd H a u) (m : M a = none) : Rd H' a u ∧ M' a = none := by
  rcases h with h | ⟨o, h⟩
  · exact ⟨.inl (e a _ h m).1, (e a _ h m).2⟩
  · exact ⟨.inr ⟨o, (e a _ h m).1⟩, (e a _ h m).2⟩
theorem FL.ext (e : Ext H M H' M') {a : Addr} {xs : List V} (h : FL H M a xs) : FL H' M' a xs := e a _ h.1 h.2
theorem FS.ext (e : Ext H M H' M') {a : Addr} {xs : List V} (h : FS K H M a xs) : FS K H' M' a xs := by
  rcases h with ⟨h, m⟩ | h
  · exact .inl (e.rd h m)
  · exact .inr h
theorem FT.ext (e : Ext H M H' M') {a : Addr} {xs : List V} (h : FT K H M a xs) : FT K H' M' a xs := by
  rcases h with ⟨h, m⟩ | h
  · exact .inl (e.rd h m)
  · exact .inr h
mutual
theorem Fz.ext (e : Ext H M H' M') : ∀ (d : PyData) (v : V), Fz K H M v d → Fz K H' M' v d
  | .none, _, h => by cases h; exact .non
  | .bool b, _, h => by cases h; exact .bl b
  | .int i, _, h => by cases h; exact .int i
  | .str x, _, h => by cases h; exact .str x
  | .list ds, _, h => by cases h with | lst h1 h2 => exact .lst (h1.ext e) (FzA.ext e ds _ h2)
  | .tuple ds, _, h => by cases h with | tup h1 h2 => exact .tup (h1.ext e) (FzA.ext e ds _ h2)
  | .dict ds, _, h => by
    cases h with
    | dK h1 h2 h3 => exact .dK (e _ _ h1 h2).1 (e _ _ h1 h2).2 (FzK.ext e ds _ h3)
    | dT h1 h2 h3 => exact .dT (e _ _ h1 h2).1 (e _ _ h1 h2).2 (FzT.ext e ds _ h3)
theorem FzA.ext (e : Ext H M H' M') : ∀ (ds : List PyData) (vs : List V), FzA K H M vs ds → FzA K H' M' vs ds
  | [], _, h => by cases h; exact .nil
  | d :: ds, _, h => by cases h with | cons h1 h2 => exact .cons (Fz.ext e d _ h1) (FzA.ext e ds _ h2)
theorem FzK.ext (e : Ext H M H' M') : ∀ (ds : List (PyData × PyData)) (vs : List (Key × V)), FzK K H M vs ds → FzK K H' M' vs ds
  | [], _, h => by cases h; exact .nil
  | (k, d) :: ds, _, h => by cases h with | cons h1 h2 => exact .cons (Fz.ext e d _ h1) (FzK.ext e ds _ h2)
theorem FzT.ext (e : Ext H M H' M') : ∀ (ds : List (PyData × PyData)) (vs : List (List Key × V)), FzT K H M vs ds → FzT K H' M' vs ds
  | [], _, h => by cases h; exact .nil
  | (k, d) :: ds, _, h => by cases h with | cons h1 h2 => exact .cons (Fz.ext e d _ h1) (FzT.ext e ds _ h2)
end
end

def Wv (K : PySem.W.Frag) (H : Hp) (M : MH) (v : V) : W → Prop
  | .d x => Fz K H M v x
  | .ref a => v = .ref a
  | .scr ds => ∃ a xs, v = .ref a ∧ FS K H M a xs ∧ FzA K H M xs ds
abbrev WvA (K : PySem.W.Frag) (H : Hp) (M : MH) : List V → List W → Prop := Paired (Wv K H M)
def WvF (K : PySem.W.Frag) (H : Hp) (M : MH) : List (Str × V) → List (Str × W) → Prop := Paired fun p q => p.1 = q.1 ∧ Wv K H M p.2 q.2
section
variable {K : PySem.W.Frag} {H H' : Hp} {M M' : MH}
theorem Wv.ext (e : Ext H M H' M') {v : V} {w : W} (h : Wv K H M v w) : Wv K H' M' v w := by
  cases w with
  | d x => exact Fz.ext e x v h
  | ref a => exact h
  | scr ds => obtain ⟨a, xs, h1, h2, h3⟩ := h; exact ⟨a, xs, h1, h2.ext e, FzA.ext e ds xs h3⟩
theorem WvA.ext (e : Ext H M H' M') {vs : List V} {ws : List W} (h : WvA K H M vs ws) : WvA K H' M' vs ws := Paired.mapP h fun _ _ x => Wv.ext e x
theorem WvF.ext (e : Ext H M H' M') {vs : List (Str × V)} {ws : List (Str × W)} (h : WvF K H M vs ws) : WvF K H' M' vs ws := Paired.mapP h fun _ _ x => ⟨x.1, Wv.ext e x.2⟩
theorem FzA.wv : ∀ {vs : List V} {ds : List PyData}, FzA K H M vs ds → WvA K H M vs (ds.map W.d)
  | _, _, .nil => .nil
  | _, _, .cons h1 h2 => .cons h1 h2.wv
theorem FzA.of_wv : ∀ {vs : List V} {ds : List PyData}, WvA K H M vs (ds.map W.d) → FzA K H M vs ds
  | _, [], h => by cases h; exact .nil
  | _, d :: ds, h => by cases h with | cons h1 h2 => exact .cons h1 (FzA.of_wv h2)
theorem FzA.length : ∀ {vs : List V} {ds : List PyData}, FzA K H M vs ds → vs.length = ds.length
  | _, _, .nil => rfl
  | _, _, .cons _ h2 => by simp [h2.length]
theorem FzA.get : ∀ {vs : List V} {ds : List PyData} {i : Nat} {d : PyData}, FzA K H M vs ds → ds[i]? = some d → ∃ v, vs[i]? = some v ∧ Fz K H M v d
  | _, _, _, _, .nil, e => by simp at e
  | _, _, 0, _, .cons h1 _, e => by simp at e; subst e; exact ⟨_, rfl, h1⟩
  | _, _, i + 1, d, .cons _ h2, e => by
    obtain ⟨v, e1, e2⟩ := FzA.get (i := i) (d := d) h2 (by simpa using e)
    exact ⟨v, by simpa using e1, e2⟩
theorem FzA.append : ∀ {vs ws : List V} {ds es : List PyData}, FzA K H M vs ds → FzA K H M ws es → FzA K H M (vs ++ ws) (ds ++ es)
  | _, _, _, _, .nil, h => h
  | _, _, _, _, .cons h1 h2, h => .cons h1 (h2.append h)
theorem FzA.take : ∀ {vs : List V} {ds : List PyData} (n : Nat), FzA K H M vs ds → FzA K H M (vs.take n) (ds.take n)
  | _, _, 0, _ => .nil
  | _, _, _ + 1, .nil => .nil
  | _, _, n + 1, .cons h1 h2 => .cons h1 (h2.take n)
theorem FzA.drop : ∀ {vs : List V} {ds : List PyData} (n : Nat), FzA K H M vs ds → FzA K H M (vs.drop n) (ds.drop n)
  | _, _, 0, h => h
  | _, _, _ + 1, .nil => .nil
  | _, _, n + 1, .cons _ h2 => h2.drop n
end

def WvK (K : PySem.W.Frag) (H : Hp) (M : MH) : List (Key × V) → List (Key × W) → Prop := Paired fun p q => p.1 = q.1 ∧ Wv K H M p.2 q.2
theorem WvK.ext {K : PySem.W.Frag} {H H' : Hp} {M M' : MH} (e : Ext H M H' M') {vs : List (Key × V)} {ws : List (Key × W)} (h : WvK K H M vs ws) : WvK K H' M' vs ws := Paired.mapP h fun _ _ x => ⟨x.1, Wv.ext e x.2⟩
/-- a dict with keys of tuples, by its entries -/
def DctN (P : Program) (w : World) (xs : List (NestedKey × Addr × Value)) (a : Addr) : HO := .ext fun h => ∃ (o : Obj) (es : Array DictEntry) (ep : Nat), h.get? a = some o ∧ o.ExactDict ∧ o.data = .dict es ep ∧ es.toList = xs.map (entryOfKey (nestedKind P w))
def RN (K : PySem.W.Frag) (H : Hp) (M : MH) (x : NestedKey × Addr × Value) (q : NestedKey × W) : Prop := x.1 = q.1 ∧ Fz K H M (.ref x.2.1) q.1.data ∧ q.1.depth ≤ 8 ∧ ∃ v, RelV v x.2.2 ∧ Wv K H M v q.2
theorem RN.ext {K : PySem.W.Frag} {H H' : Hp} {M M' : MH} (e : Ext H M H' M') {x : NestedKey × Addr × Value} {q : NestedKey × W} (h : RN K H M x q) : RN K H' M' x q := by
  obtain ⟨h1, h2, h3, v, h4, h5⟩ := h
  exact ⟨h1, Fz.ext e _ _ h2, h3, v, h4, Wv.ext e h5⟩
/-- the fields of an exception -/
def XFs (K : PySem.W.Frag) (H : Hp) (M : MH) (d : Option Addr) (fs : XF) : Prop :=
  match d, fs with
  | none, none => True
  | some dx, some fs => ∃ vs, H dx = some (.xd vs) ∧ M dx = none ∧ WvF K H M vs fs
  | _, _ => False
theorem XFs.ext {K : PySem.W.Frag} {H H' : Hp} {M M' : MH} (e : Ext H M H' M') {d : Option Addr} {fs : XF} (h : XFs K H M d fs) : XFs K H' M' d fs := by
  cases d with
  | none => cases fs with
    | none => trivial
    | some _ => exact h.elim
  | some dx => cases fs with
    | none => exact h.elim
    | some fs =>
      obtain ⟨vs, h1, h2, h3⟩ := h
      exact ⟨vs, (e _ _ h1 h2).1, (e _ _ h1 h2).2, WvF.ext e h3⟩
/-- an exception object that stays as it is -/
def ExL (cls : Value) (d : Option Addr) (a : Addr) : HO := .ext fun h => ∃ (oe : Obj) (vs : Array Value), h.get? a = some oe ∧ Zc cls d oe ∧ oe.data = .fields vs
theorem exL_ok {P : Program} {w : World} {H : Hp} {h : Heap} {a : Addr} {cls : Value} {d : Option Addr} {oe : Obj} {vs : Array Value} (e : h.get? a = some oe) (z : Zc cls d oe) (dt : oe.data = .fields vs) : ObjOk P w H h a (ExL cls d a) :=
  ⟨⟨oe, vs, e, z, dt⟩, ⟨oe, e⟩, fun _ _ ⟨o, v, q, r⟩ k => ⟨o, v, k o q, r⟩⟩

/-- the heap of things that may change is held -/
def OkO (K : PySem.W.Frag) (H : Hp) (M : MH) (a : Addr) : O → Prop
  | .lst ws => ∃ xs, H a = some (.lst xs) ∧ WvA K H M xs ws
  | .ins C fs => ∃ dx vs, H a = some (.ins C dx vs) ∧ WvF K H M vs fs
  | .exc cls fs => ∃ d, H a = some (ExL cls d a) ∧ XFs K H M d fs
  | .dK kvs => ∃ vs, H a = some (.dK vs) ∧ WvK K H M vs kvs
  | .dN P w kvs => ∃ xs, H a = some (DctN P w xs a) ∧ kvs.length ≤ sizeLine ∧ (a == sysModules) = false ∧ (kvs.map (·.1)).Nodup ∧ Paired (RN K H M) xs kvs
  | .tup ws => ∃ xs, H a = some (.tup xs) ∧ WvA K H M xs ws
def Dok (K : PySem.W.Frag) (H : Hp) (M : MH) : Prop := ∀ a o, M a = some o → OkO K H M a o
theorem Dok.there {K : PySem.W.Frag} {H : Hp} {M : MH} (h : Dok K H M) {a : Addr} {o : O} (e : M a = some o) : ∃ u, H a = some u := by
  have q := h a o e
  cases o with
  | lst ws => obtain ⟨xs, q, _⟩ := q; exact ⟨_, q⟩
  | ins C fs => obtain ⟨dx, vs, q, _⟩ := q; exact ⟨_, q⟩
  | exc cls fs => obtain ⟨d, q, _⟩ := q; exact ⟨_, q⟩
  | dK kvs => obtain ⟨vs, q, _⟩ := q; exact ⟨_, q⟩
  | dN P w kvs => obtain ⟨vs, q, _⟩ := q; exact ⟨_, q⟩
  | tup ws => obtain ⟨xs, q, _⟩ := q; exact ⟨_, q⟩
theorem Dok.free {K : PySem.W.Frag} {H : Hp} {M : MH} (h : Dok K H M) {a : Addr} (e : H a = none) : M a = none := by
  cases q : M a with
  | none => rfl
  | some o =>
    obtain ⟨u, z⟩ := h.there q
    rw [e] at z
    cases z
section
variable {K : PySem.W.Frag} {H H' : Hp} {M M' : MH} {a : Addr}
/-- a new frozen object -/
theorem ext_new (n : H a = none) (m : M a = none) {o : HO} : Ext H M (upd H a o) M := fun b u h m' => ⟨by rw [upd_ne (ne_of_none h n)]; exact h, m'⟩
theorem OkO.ext (e : Ext H M H' M') (hH : ∀ u, H a = some u → H' a = some u) {o : O} (h : OkO K H M a o) : OkO K H' M' a o := by
  cases o with
  | lst ws => obtain ⟨xs, q, r⟩ := h; exact ⟨xs, hH _ q, WvA.ext e r⟩
  | ins C fs => obtain ⟨dx, vs, q, r⟩ := h; exact ⟨dx, vs, hH _ q, WvF.ext e r⟩
  | exc cls fs => obtain ⟨d, q, r⟩ := h; exact ⟨d, hH _ q, r.ext e⟩
  | dK kvs => obtain ⟨vs, q, r⟩ := h; exact ⟨vs, hH _ q, WvK.ext e r⟩
  | dN P w kvs => obtain ⟨vs, q, r1, r2, r3, r⟩ := h; exact ⟨vs, hH _ q, r1, r2, r3, Paired.mapP r fun _ _ z => z.ext e⟩
  | tup ws => obtain ⟨xs, q, r⟩ := h; exact ⟨xs, hH _ q, WvA.ext e r⟩
theorem dok_new (D : Dok K H M) (n : H a = none) {o : HO} : Dok K (upd H a o) M := fun b u e =>
  (D b u e).ext (ext_new n (D.free n)) fun v h => by rw [upd_ne (ne_of_none h n)]; exact h
/-- a new object that may change, or an old one changed -/
theorem ext_mut {o : HO} {u : O} (m : M a ≠ none ∨ H a = none) : Ext H M (upd H a o) (mset M a u) := fun b v h m' => by
  have hb : b ≠ a := by
    rintro rfl
    rcases m with m | m
    · exact m m'
    · rw [m] at h; cases h
  exact ⟨by rw [upd_ne hb]; exact h, by rw [mset_ne hb]; exact m'⟩
theorem dok_mut (D : Dok K H M) {o : HO} {u : O} (m : M a ≠ none ∨ H a = none) (k : Ext H M (upd H a o) (mset M a u) → OkO K (upd H a o) (mset M a u) a u) : Dok K (upd H a o) (mset M a u) := fun b v e => by
  have X := ext_mut (o := o) (u := u) m
  by_cases hb : b = a
  · subst hb
    rw [mset_same] at e
    cases e
    exact k X
  · rw [mset_ne hb] at e
    exact (D b v e).ext X fun w h => by rw [upd_ne hb]; exact h
/-- fewer things may change -/
theorem ext_less (h : ∀ b o, M' b = some o → M b = some o) : Ext H M H M' := fun b o e m => ⟨e, by
  cases q : M' b with
  | none => rfl
  | some o => rw [h b o q] at m; cases m⟩
theorem dok_less (D : Dok K H M) (h : ∀ b o, M' b = some o → M b = some o) : Dok K H M' := fun b o e => (D b o (h b o e)).ext (ext_less h) fun _ z => z
theorem mdel_less : ∀ b o, mdel M a b = some o → M b = some o := fun b o e => by
  by_cases hb : b = a
  · subst hb
    rw [mdel_same] at e
    cases e
  · rw [mdel_ne hb] at e
    exact e
end

/-! ### slots -/
abbrev SD := List (Option W)
def Slots (K : PySem.W.Frag) (H : Hp) (M : MH) : L2.St → SD → Prop := Paired fun a b => ∀ w, b = some w → ∃ v, a = some v ∧ Wv K H M v w
section
variable {K : PySem.W.Frag} {H H' : Hp} {M M' : MH}
theorem Slots.ext (e : Ext H M H' M') {s : L2.St} {σ : SD} (h : Slots K H M s σ) : Slots K H' M' s σ := Paired.mapP h fun _ _ q w hw =>
  let ⟨v, h1, h2⟩ := q w hw
  ⟨v, h1, Wv.ext e h2⟩
theorem Slots.get : ∀ {s : L2.St} {σ : SD} {i : Nat} {w : W}, Slots K H M s σ → σ[i]? = some (some w) → ∃ v, s[i]? = some (some v) ∧ Wv K H M v w
  | _, _, _, _, .nil, e => by simp at e
  | _, _, 0, w, .cons r _, e => by
    simp at e
    obtain ⟨v, h1, h2⟩ := r w e
    exact ⟨v, by simp [h1], h2⟩
  | _, _, i + 1, w, .cons _ t, e => by
    obtain ⟨v, h1, h2⟩ := Slots.get (i := i) (w := w) t (by simpa using e)
    exact ⟨v, by simpa using h1, h2⟩
theorem Slots.set {v : V} {w : W} (r : Wv K H M v w) : ∀ {s : L2.St} {σ : SD} (i : Nat), Slots K H M s σ → Slots K H M (s.set i (some v)) (σ.set i (some w))
  | _, _, _, .nil => .nil
  | _, _, 0, .cons _ t => .cons (fun w' e => ⟨v, rfl, by cases e; exact r⟩) t
  | _, _, i + 1, .cons q t => .cons q (Slots.set r i t)
theorem Slots.wipe1 : ∀ {s : L2.St} {σ : SD} (i : Nat), Slots K H M s σ → Slots K H M (s.set i none) (σ.set i none)
  | _, _, _, .nil => .nil
  | _, _, 0, .cons _ t => .cons (fun w' e => by cases e) t
  | _, _, i + 1, .cons q t => .cons q (Slots.wipe1 i t)
theorem Slots.length {s : L2.St} {σ : SD} (h : Slots K H M s σ) : s.length = σ.length := Paired.length h
end
def wipeD (σ : SD) : List Nat → SD
  | [] => σ
  | v :: vs => (wipeD σ vs).set v none
theorem Slots.wipe {K : PySem.W.Frag} {H : Hp} {M : MH} {s : L2.St} {σ : SD} (h : Slots K H M s σ) : ∀ vs : List Nat, Slots K H M (L2.wipe s vs) (wipeD σ vs)
  | [] => h
  | v :: vs => Slots.wipe1 v (Slots.wipe h vs)
theorem slots_start {K : PySem.W.Frag} {H : Hp} {M : MH} : ∀ {vs : List V} {ws : List W} (n : Nat), WvA K H M vs ws → Slots K H M (vs.map some ++ List.replicate n none) (ws.map some ++ List.replicate n none)
  | _, _, n, .nil => by
    show Slots K H M (List.replicate n none) (List.replicate n none)
    induction n with
    | zero => exact .nil
    | succ n ih => exact .cons (fun w e => by cases e) ih
  | _, _, n, .cons r t => .cons (fun w e => ⟨_, rfl, by cases e; exact r⟩) (slots_start n t)
end Dl
set_option Elab.async false
set_option linter.all false
set_option maxRecDepth 100000
namespace Dl
open PySem PySem.Spec PyProof.Rows L2

/-! ### contexts -/
structure Gc where
  P : Program
  w : World
  K : PySem.W.Frag
  mg : Str → Option Value
  base : Heap
structure Si where
  sc : Scope
  N : List Str
  vis : List Nat
  loc : List Nat
  cel : List Nat
  gls : List Str
  /-- run where an exception may be handled -/
  hot : Bool := false
  /-- the block of a comprehension -/
  blk : Bool := false
abbrev XD := Value → XF → MH → Prop
structure Dx where
  X : Cx
  H0 : Hp
  M0 : MH
  wd : Value → XF → SD → MH → Prop
structure Std (Y : Dx) (s : L2.St) (H : Hp) (σ : SD) (M : MH) : Prop where
  e : Ext Y.H0 Y.M0 H M
  d : Dok Y.X.K H M
  s : Slots Y.X.K H M s σ
def upX (Y : Dx) (wd : Value → XF → SD → MH → Prop) : WX := fun cls d s H => ∃ σ M fs, Std Y s H σ M ∧ XFs Y.X.K H M d fs ∧ wd cls fs σ M
def visOk (N : List Str) (sc : Scope) (l : List Nat) : Bool := l.all fun i => match N[i]? with
  | some x => (match sc.names.lookup x with | some .local => true | some .cell => true | some .free => true | _ => false) && (x == ("__debug__" : Str)) == false && (x == ("__classdict__" : Str)) == false
  | none => false
def kindOk (N : List Str) (sc : Scope) (k : NameKind) (l : List Nat) : Bool := l.all fun i => match N[i]? with
  | some x => decide (sc.names.lookup x = some k)
  | none => false
def gloOk (sc : Scope) (l : List Str) : Bool := l.all fun x => decide (sc.names.lookup x = some .globalImplicit) && (x == ("__debug__" : Str)) == false && decide (x ≠ "__name__")

/-- sys.modules stands where it stands -/
def SysOk (h : Heap) : Prop := ∃ o es n, h.get? sysModules = some o ∧ o.data = .dict es n
/-- there is room -/
structure RmH (k : Nat) (A : Around) : Prop where
  dp : A.depth + 3 * k + 5 < recursionLimit
  un : A.units + 16 * k + 200 < cLine
theorem RmH.mono {j k : Nat} {A : Around} (r : RmH k A) (h : j ≤ k) : RmH j A := ⟨by have := r.dp; omega, by have := r.un; omega⟩
theorem RmH.deeper {k : Nat} {A : Around} (r : RmH (k + 1) A) (env : Env) : RmH k (A.deeper env) :=
  ⟨by have := r.dp; show A.depth + 1 + 3 * k + 5 < _; omega, by have := r.un; show A.units + 3 + 16 * k + 200 < _; omega⟩
theorem RmH.depth {k : Nat} {A : Around} (r : RmH k A) : A.depth < recursionLimit := by have := r.dp; omega
structure Fm (g : Gc) (i : Si) (k : Nat) (Y : Dx) : Prop where
  hP : Y.X.prog = g.P
  hw : Y.X.w = g.w
  hK : Y.X.K = g.K
  hmg : Y.X.mg = g.mg
  hb : Y.X.base = g.base
  N : Y.X.N = i.N
  hsc : Y.X.env.scope = i.sc
  nd : i.N.Nodup
  calm : i.hot = false → Y.X.calm = true
  hd : i.hot = false → Y.X.A.handled = none
  gd : Y.X.A.guards = some []
  room : RmH k Y.X.A
  fr : i.blk = false → Y.X.stack = Y.X.env :: Y.X.outer ∧ Y.X.env.frame = some Y.X.env.locals
  var : ∀ j x, i.vis.contains j = true → i.N[j]? = some x → Vis Y.X.env.scope x ∧ (x == ("__debug__" : Str)) = false ∧ (x == ("__classdict__" : Str)) = false
  loc : ∀ j x, i.loc.contains j = true → i.N[j]? = some x → Y.X.env.scope.names.lookup x = some .local
  cel : ∀ j x, i.cel.contains j = true → i.N[j]? = some x → Y.X.env.scope.names.lookup x = some .cell ∧ Y.X.fn x = true
  glo : ∀ (j : Nat) x, i.gls[j]? = some x → Gl Y.X x ∧ (x == ("__debug__" : Str)) = false ∧ x ≠ "__name__"
  sy : SysOk Y.X.base
  tk : Takes Y.X (upX Y Y.wd)
  po : PassesOwn (model Y.X.prog Y.X.w) Y.X.A Y.X.env Y.X.xe

/-! ### what code means -/
def semE (X : Cx) (e : Expr) : TE := fun s H Q => ∀ pins sh, Inv X pins s H sh → wpAny (model X.prog X.w) X.A (eval e X.env) (EP X pins s Q) X.xe sh
theorem pe_sem {X : Cx} {e : Expr} : PE X e (semE X e) := ⟨fun pins s _ _ _ I h => h pins s I⟩
theorem semE_of {X : Cx} {e : Expr} {t : TE} (h : PE X e t) {s : L2.St} {H : Hp} {Q : VK} (q : t s H Q) : semE X e s H Q := fun pins sh I => h.run pins sh s H Q I q
theorem semE_mono {X : Cx} {e : Expr} {s : L2.St} {H : Hp} {Q Q' : VK} (h : semE X e s H Q) (k : ∀ v H', Q v H' → Q' v H') : semE X e s H Q' := fun pins sh I =>
  thn (h pins sh I) fun _ _ ⟨v, H', I', r, q⟩ => ⟨v, H', I', r, k v H' q⟩
def semT (X : Cx) (e : Expr) : TT := fun s H Q => ∀ pins sh, Inv X pins s H sh → wpAny (model X.prog X.w) X.A (isTrue e X.env (eval e X.env)) (TP X pins s Q) X.xe sh
theorem pt_sem {X : Cx} {e : Expr} : PT X e (semT X e) := ⟨fun pins s _ _ _ I h => h pins s I⟩
theorem semT_of {X : Cx} {e : Expr} {t : TT} (h : PT X e t) {s : L2.St} {H : Hp} {Q : Bool → Hp → Prop} (q : t s H Q) : semT X e s H Q := fun pins sh I => h.run pins sh s H Q I q
theorem semT_mono {X : Cx} {e : Expr} {s : L2.St} {H : Hp} {Q Q' : Bool → Hp → Prop} (h : semT X e s H Q) (k : ∀ v H', Q v H' → Q' v H') : semT X e s H Q' := fun pins sh I =>
  thn (h pins sh I) fun _ _ ⟨H', I', q⟩ => ⟨H', I', k _ H' q⟩
def semW (X : Cx) (e : Expr) : TT := fun s H Q => ∀ (whole : Sem Value) pins sh, Inv X pins s H sh → wpAny (model X.prog X.w) X.A (isTrue e X.env whole) (TP X pins s Q) X.xe sh
theorem pw_sem {X : Cx} {e : Expr} : PW X e (semW X e) := ⟨fun wh pins s _ _ _ I h => h wh pins s I⟩
theorem semW_of {X : Cx} {e : Expr} {t : TT} (h : PW X e t) {s : L2.St} {H : Hp} {Q : Bool → Hp → Prop} (q : t s H Q) : semW X e s H Q := fun wh pins sh I => h.run wh pins sh s H Q I q
def semA (X : Cx) (es : List Expr) : TA := fun s H Q => ∀ (pos : Pos) pins sh, Inv X pins s H sh → wpAny (model X.prog X.w) X.A (spliced (backTo pos (starEach es X.env))) (AP X pins s Q) X.xe sh
theorem pa_sem {X : Cx} {es : List Expr} : PA X es (semA X es) := ⟨fun pos pins s _ _ _ I h => h pos pins s I⟩
theorem semA_of {X : Cx} {es : List Expr} {t : TA} (h : PA X es t) {s : L2.St} {H : Hp} {Q : List V → Hp → Prop} (q : t s H Q) : semA X es s H Q := fun pos pins sh I => h.run pos pins sh s H Q I q
theorem semA_mono {X : Cx} {es : List Expr} {s : L2.St} {H : Hp} {Q Q' : List V → Hp → Prop} (h : semA X es s H Q) (k : ∀ v H', Q v H' → Q' v H') : semA X es s H Q' := fun pos pins sh I =>
  thn (h pos pins sh I) fun _ _ ⟨v, H', I', r, q⟩ => ⟨v, H', I', r, k v H' q⟩
def semS (X : Cx) (st : Stmt) : TS := fun D s H => ∀ pins sh, Inv X pins s H sh → wpAny (model X.prog X.w) X.A (exec st X.env) (SP X pins D) X.xe sh
theorem ps_sem {X : Cx} {st : Stmt} : PS X st (semS X st) := ⟨fun pins s _ _ _ I h => h pins s I⟩
theorem semS_of {X : Cx} {st : Stmt} {t : TS} (h : PS X st t) {s : L2.St} {H : Hp} {D : Ends} (q : t D s H) : semS X st D s H := fun pins sh I => h.run pins sh s H D I q
def semSs (X : Cx) (st : List Stmt) : TS := fun D s H => ∀ pins sh, Inv X pins s H sh → wpAny (model X.prog X.w) X.A (execs st X.env) (SP X pins D) X.xe sh
theorem pss_sem {X : Cx} {st : List Stmt} : PSs X st (semSs X st) := ⟨fun pins s _ _ _ I h => h pins s I⟩
theorem semSs_of {X : Cx} {st : List Stmt} {t : TS} (h : PSs X st t) {s : L2.St} {H : Hp} {D : Ends} (q : t D s H) : semSs X st D s H := fun pins sh I => h.run pins sh s H D I q
theorem SP.mono {X : Cx} {pins : List (Addr × Obj)} {D D' : Ends} {f : Flow} {s' : Shared} (h : SP X pins D f s') (h1 : ∀ σ H, D.nx σ H → D'.nx σ H) (h2 : ∀ v H, D.rt v H → D'.rt v H) (h3 : ∀ σ H, D.bk σ H → D'.bk σ H) (h4 : ∀ σ H, D.ct σ H → D'.ct σ H) : SP X pins D' f s' := by
  cases f with
  | next => obtain ⟨σ', H', I, q⟩ := h; exact ⟨σ', H', I, h1 _ _ q⟩
  | brk => obtain ⟨σ', H', I, q⟩ := h; exact ⟨σ', H', I, h3 _ _ q⟩
  | cont => obtain ⟨σ', H', I, q⟩ := h; exact ⟨σ', H', I, h4 _ _ q⟩
  | ret u => obtain ⟨v, σ', H', I, r, q⟩ := h; exact ⟨v, σ', H', I, r, h2 _ _ q⟩

/-! ### readings over data -/
abbrev TEd := SD → MH → (W → MH → Prop) → Prop
abbrev TTd := SD → MH → (Bool → MH → Prop) → Prop
abbrev TAd := SD → MH → (List W → MH → Prop) → Prop
structure EndsD where
  nx : SD → MH → Prop
  rt : W → MH → Prop
  bk : SD → MH → Prop := fun _ _ => False
  ct : SD → MH → Prop := fun _ _ => False
abbrev TSd := EndsD → SD → MH → Prop

/-- behind (H, M) -/
def up (Y : Dx) (H : Hp) (M : MH) (Q : W → MH → Prop) : VK := fun v H' => ∃ w M', Ext H M H' M' ∧ Dok Y.X.K H' M' ∧ Wv Y.X.K H' M' v w ∧ Q w M'
def upB (Y : Dx) (H : Hp) (M : MH) (Q : Bool → MH → Prop) : Bool → Hp → Prop := fun b H' => ∃ M', Ext H M H' M' ∧ Dok Y.X.K H' M' ∧ Q b M'
def upA (Y : Dx) (H : Hp) (M : MH) (Q : List W → MH → Prop) : List V → Hp → Prop := fun vs H' => ∃ ws M', Ext H M H' M' ∧ Dok Y.X.K H' M' ∧ WvA Y.X.K H' M' vs ws ∧ Q ws M'
def upS (Y : Dx) (H : Hp) (M : MH) (Q : SD → MH → Prop) : L2.St → Hp → Prop := fun s H' => ∃ σ M', Ext H M H' M' ∧ Std Y s H' σ M' ∧ Q σ M'
def upD (Y : Dx) (H : Hp) (M : MH) (D : EndsD) : Ends := { nx := upS Y H M D.nx, rt := up Y H M D.rt, bk := upS Y H M D.bk, ct := upS Y H M D.ct }

structure QE (Y : Dx) (e : Expr) (t : TEd) : Prop where
  run : ∀ s H σ M Q, Std Y s H σ M → t σ M Q → semE Y.X e s H (up Y H M Q)
structure QT (Y : Dx) (e : Expr) (t : TTd) : Prop where
  run : ∀ s H σ M Q, Std Y s H σ M → t σ M Q → semT Y.X e s H (upB Y H M Q)
structure QW (Y : Dx) (e : Expr) (t : TTd) : Prop where
  run : ∀ s H σ M Q, Std Y s H σ M → t σ M Q → semW Y.X e s H (upB Y H M Q)
structure QA (Y : Dx) (es : List Expr) (t : TAd) : Prop where
  run : ∀ s H σ M Q, Std Y s H σ M → t σ M Q → semA Y.X es s H (upA Y H M Q)
structure QS (Y : Dx) (st : Stmt) (t : TSd) : Prop where
  run : ∀ s H σ M D, Std Y s H σ M → t D σ M → semS Y.X st (upD Y H M D) s H
structure QSs (Y : Dx) (st : List Stmt) (t : TSd) : Prop where
  run : ∀ s H σ M D, Std Y s H σ M → t D σ M → semSs Y.X st (upD Y H M D) s H

section
variable {Y : Dx} {s : L2.St} {H H1 : Hp} {σ : SD} {M M1 : MH}
theorem Std.go (S : Std Y s H σ M) (e : Ext H M H1 M1) (d : Dok Y.X.K H1 M1) : Std Y s H1 σ M1 := ⟨S.e.trans e, d, S.s.ext e⟩
theorem Std.set (S : Std Y s H σ M) {v : V} {w : W} (r : Wv Y.X.K H M v w) (i : Nat) : Std Y (s.set i (some v)) H (σ.set i (some w)) M := ⟨S.e, S.d, S.s.set r i⟩
theorem up.trans {Q : W → MH → Prop} (e : Ext H M H1 M1) {v : V} {H2 : Hp} (h : up Y H1 M1 Q v H2) : up Y H M Q v H2 := by
  obtain ⟨w, M', e', d, r, q⟩ := h
  exact ⟨w, M', e.trans e', d, r, q⟩
theorem upB.trans {Q : Bool → MH → Prop} (e : Ext H M H1 M1) {v : Bool} {H2 : Hp} (h : upB Y H1 M1 Q v H2) : upB Y H M Q v H2 := by
  obtain ⟨M', e', d, q⟩ := h
  exact ⟨M', e.trans e', d, q⟩
theorem upA.trans {Q : List W → MH → Prop} (e : Ext H M H1 M1) {v : List V} {H2 : Hp} (h : upA Y H1 M1 Q v H2) : upA Y H M Q v H2 := by
  obtain ⟨w, M', e', d, r, q⟩ := h
  exact ⟨w, M', e.trans e', d, r, q⟩
theorem QE.then_ {e : Expr} {t : TEd} (h : QE Y e t) (S : Std Y s H σ M) {Q : W → MH → Prop} (q : t σ M Q) {R : VK}
    (k : ∀ v H1 w M1, Ext H M H1 M1 → Dok Y.X.K H1 M1 → Wv Y.X.K H1 M1 v w → Q w M1 → R v H1) : semE Y.X e s H R :=
  semE_mono (h.run s H σ M Q S q) fun v H1 ⟨w, M1, e, d, r, q⟩ => k v H1 w M1 e d r q
theorem QT.then_ {e : Expr} {t : TTd} (h : QT Y e t) (S : Std Y s H σ M) {Q : Bool → MH → Prop} (q : t σ M Q) {R : Bool → Hp → Prop}
    (k : ∀ v H1 M1, Ext H M H1 M1 → Dok Y.X.K H1 M1 → Q v M1 → R v H1) : semT Y.X e s H R :=
  semT_mono (h.run s H σ M Q S q) fun v H1 ⟨M1, e, d, q⟩ => k v H1 M1 e d q
theorem QA.then_ {es : List Expr} {t : TAd} (h : QA Y es t) (S : Std Y s H σ M) {Q : List W → MH → Prop} (q : t σ M Q) {R : List V → Hp → Prop}
    (k : ∀ v H1 w M1, Ext H M H1 M1 → Dok Y.X.K H1 M1 → WvA Y.X.K H1 M1 v w → Q w M1 → R v H1) : semA Y.X es s H R :=
  semA_mono (h.run s H σ M Q S q) fun v H1 ⟨w, M1, e, d, r, q⟩ => k v H1 w M1 e d r q
theorem Std.here {Q : W → MH → Prop} (S : Std Y s H σ M) {v : V} {w : W} (r : Wv Y.X.K H M v w) (q : Q w M) : up Y H M Q v H := ⟨w, M, .refl _ _, S.d, r, q⟩
theorem upS.trans {Q : SD → MH → Prop} (e : Ext H M H1 M1) {s2 : L2.St} {H2 : Hp} (h : upS Y H1 M1 Q s2 H2) : upS Y H M Q s2 H2 := by
  obtain ⟨σ', M', e', S, q⟩ := h
  exact ⟨σ', M', e.trans e', S, q⟩
theorem semS_mono {X : Cx} {st : Stmt} {s : L2.St} {H : Hp} {D D' : Ends} (h : semS X st D s H) (h1 : ∀ σ H, D.nx σ H → D'.nx σ H) (h2 : ∀ v H, D.rt v H → D'.rt v H) (h3 : ∀ σ H, D.bk σ H → D'.bk σ H) (h4 : ∀ σ H, D.ct σ H → D'.ct σ H) : semS X st D' s H :=
  fun pins sh I => thn (h pins sh I) fun _ _ z => SP.mono z h1 h2 h3 h4
theorem semSs_mono {X : Cx} {st : List Stmt} {s : L2.St} {H : Hp} {D D' : Ends} (h : semSs X st D s H) (h1 : ∀ σ H, D.nx σ H → D'.nx σ H) (h2 : ∀ v H, D.rt v H → D'.rt v H) (h3 : ∀ σ H, D.bk σ H → D'.bk σ H) (h4 : ∀ σ H, D.ct σ H → D'.ct σ H) : semSs X st D' s H :=
  fun pins sh I => thn (h pins sh I) fun _ _ z => SP.mono z h1 h2 h3 h4
theorem semSs_up {st : List Stmt} {D : EndsD} {s2 : L2.St} {H2 : Hp} (e : Ext H M H1 M1) (h : semSs Y.X st (upD Y H1 M1 D) s2 H2) : semSs Y.X st (upD Y H M D) s2 H2 :=
  semSs_mono h (fun _ _ z => z.trans e) (fun _ _ z => z.trans e) (fun _ _ z => z.trans e) fun _ _ z => z.trans e
end
end Dl
set_option Elab.async false
set_option linter.all false
set_option maxRecDepth 100000
namespace Dl
open PySem PySem.Spec PyProof.Rows L2

/-! ### reading data off the machine's heap -/
section
variable {X : Cx} {pins : List (Addr × Obj)} {s : L2.St} {H : Hp} {sh : Shared} {M : MH}
theorem key_read {h : Heap} {k : Key} {u : Value} (e : keyIs k u = true) : Reads h u (keyD k) [] := by
  rcases keyIs_shape e with ⟨i, t, rfl, rfl⟩ | ⟨x, t, rfl, rfl⟩
  · exact .int i t
  · exact .str x t
theorem keys_read {h : Heap} : ∀ {ks : List Key} {us : List Value}, Vals (ks.map kV) us → ReadsAll h us (ks.map keyD) []
  | [], _, r => by cases r; exact .nil
  | k :: ks, us, r => by
    cases r with
    | cons r1 r2 =>
      rename_i u ur
      have h1 : Reads h u (keyD k) [] := by
        cases k with
        | inl i => obtain ⟨t, rfl⟩ := r1; exact .int i t
        | inr x => obtain ⟨t, rfl⟩ := r1; exact .str x t
      exact .cons h1 (keys_read r2)
theorem seq_notSys (I : Inv X pins s H sh) (hsy : SysOk X.base) {a : Addr} {o : Obj} {vs : Array Value} {n : Nat} (e : sh.heap.get? a = some o) (d : o.data = .seq vs n) : a ≠ sysModules := fun z => by
  obtain ⟨o', es, m, e', d'⟩ := hsy
  have q := I.bk _ _ e'
  rw [← z, e] at q
  cases q
  rw [d] at d'
  cases d'
mutual
theorem Fz.reads (I : Inv X pins s H sh) (hsy : SysOk X.base) : ∀ (d : PyData) (v : V) (u : Value), Fz X.K H M v d → RelV v u → ∃ as, Reads sh.heap u d as ∧ sysModules ∉ as
  | .none, _, _, h, r => by cases h; cases r; exact ⟨_, .none, by simp⟩
  | .bool b, _, _, h, r => by cases h; cases r; exact ⟨_, .bool b, by simp⟩
  | .int i, _, _, h, r => by cases h; obtain ⟨t, rfl⟩ := r; exact ⟨_, .int i t, by simp⟩
  | .str x, _, _, h, r => by cases h; obtain ⟨t, rfl⟩ := r; exact ⟨_, .str x t, by simp⟩
  | .list ds, _, _, h, r => by
    cases h with
    | lst hs ha =>
      cases r
      obtain ⟨its, rv, ⟨o, n, ho, hc, _, hd⟩, _⟩ := I.list hs.sq
      obtain ⟨as, hr, z⟩ := FzA.reads I hsy ds _ its ha rv
      exact ⟨_, .list ho hc hd hr, by simp only [List.mem_cons, not_or]; exact ⟨fun e => seq_notSys I hsy ho hd e.symm, z⟩⟩
  | .tuple ds, _, _, h, r => by
    cases h with
    | tup hs ha =>
      cases r
      obtain ⟨its, rv, ⟨o, ho, hc, n, hd⟩, _⟩ := I.tuple hs.sq
      obtain ⟨as, hr, z⟩ := FzA.reads I hsy ds _ its ha rv
      exact ⟨_, .tuple ho hc hd hr, z⟩
  | .dict ds, _, _, h, r => by
    cases h with
    | dK h1 h2 h3 =>
      cases r
      obtain ⟨_, hz, vs, kv, o, es, ep, ho, ex, hd, _, hp, _⟩ := I.hok _ _ h1
      obtain ⟨as, bs, q1, q2, z1, z2⟩ := FzK.reads I hsy ds _ vs es.toList h3 kv hp
      refine ⟨_, .dict ho ex.1 hd q1 q2, ?_⟩
      simp only [List.cons_append, List.mem_cons, List.mem_append, not_or]
      exact ⟨fun e => by simp [← e] at hz, z1, z2⟩
    | dT h1 h2 h3 =>
      cases r
      obtain ⟨_, hz, xs, pr, o, es, ep, ho, ex, hd, he, _⟩ := I.hok _ _ h1
      obtain ⟨as, bs, q1, q2, z1, z2⟩ := FzT.reads I hsy ds _ xs h3 pr
      refine ⟨_, .dict ho ex.1 hd (as := as) (bs := bs) ?_ ?_, ?_⟩
      · rw [he, List.map_map]; exact q1
      · rw [he, List.map_map]; exact q2
      · simp only [List.cons_append, List.mem_cons, List.mem_append, not_or]
        exact ⟨fun e => by simp [← e] at hz, z1, z2⟩
theorem FzA.reads (I : Inv X pins s H sh) (hsy : SysOk X.base) : ∀ (ds : List PyData) (vs : List V) (us : List Value), FzA X.K H M vs ds → Vals vs us → ∃ as, ReadsAll sh.heap us ds as ∧ sysModules ∉ as
  | [], _, _, h, r => by cases h; cases r; exact ⟨_, .nil, by simp⟩
  | d :: ds, _, _, h, r => by
    cases h with
    | cons h1 h2 =>
      cases r with
      | cons r1 r2 =>
        obtain ⟨as, q1, z1⟩ := Fz.reads I hsy d _ _ h1 r1
        obtain ⟨bs, q2, z2⟩ := FzA.reads I hsy ds _ _ h2 r2
        exact ⟨_, .cons q1 q2, by simp only [List.mem_append, not_or]; exact ⟨z1, z2⟩⟩
theorem FzK.reads (I : Inv X pins s H sh) (hsy : SysOk X.base) : ∀ (ds : List (PyData × PyData)) (kvs : List (Key × V)) (vs : List (Key × Value)) (es : List DictEntry), FzK X.K H M kvs ds → KV kvs vs → Pairs (mixKind X.prog X.w) es vs →
    ∃ as bs, ReadsAll sh.heap (es.map (·.key)) (ds.map (·.1)) as ∧ ReadsAll sh.heap (es.map (·.val)) (ds.map (·.2)) bs ∧ sysModules ∉ as ∧ sysModules ∉ bs
  | [], _, _, _, h, r, p => by cases h; cases r; cases p; exact ⟨_, _, .nil, .nil, by simp, by simp⟩
  | (kd, d) :: ds, _, _, _, h, r, p => by
    cases h with
    | cons h1 h2 =>
      cases r with
      | cons r1 r2 =>
        cases p with
        | cons p1 p2 p3 =>
          obtain ⟨a1, q1, z1⟩ := Fz.reads I hsy d _ _ h1 r1.2
          obtain ⟨as, bs, q2, q3, z2, z3⟩ := FzK.reads I hsy ds _ _ _ h2 r2 p3
          rw [← p2] at q1
          refine ⟨_, _, .cons (key_read (k := _) ?_) q2, .cons q1 q3, ?_, ?_⟩
          · have p1' : keyIs _ _ = true := p1
            rw [← r1.1] at p1'
            exact p1'
          · simpa using z2
          · simp only [List.mem_append, not_or]; exact ⟨z1, z3⟩
theorem FzT.reads (I : Inv X pins s H sh) (hsy : SysOk X.base) : ∀ (ds : List (PyData × PyData)) (kvs : List (List Key × V)) (xs : List (List Key × Addr × Value)), FzT X.K H M kvs ds →
    Paired (fun (p : List Key × V) (q : List Key × Addr × Value) => p.1 = q.1 ∧ H q.2.1 = some (.tup (p.1.map kV)) ∧ RelV p.2 q.2.2) kvs xs →
    ∃ as bs, ReadsAll sh.heap (xs.map ((·.key) ∘ entryOfKey (tupleKind (mixKind X.prog X.w)))) (ds.map (·.1)) as ∧ ReadsAll sh.heap (xs.map ((·.val) ∘ entryOfKey (tupleKind (mixKind X.prog X.w)))) (ds.map (·.2)) bs ∧ sysModules ∉ as ∧ sysModules ∉ bs
  | [], _, _, h, r => by cases h; cases r; exact ⟨_, _, .nil, .nil, by simp, by simp⟩
  | (kd, d) :: ds, _, _, h, r => by
    cases h with
    | cons h1 h2 =>
      cases r with
      | cons r1 r2 =>
        obtain ⟨e1, e2, e3⟩ := r1
        obtain ⟨a1, q1, z1⟩ := Fz.reads I hsy d _ _ h1 e3
        obtain ⟨as, bs, q2, q3, z2, z3⟩ := FzT.reads I hsy ds _ _ h2 r2
        obtain ⟨its, rv, ⟨o, ho, hc, n, hd⟩, _⟩ := I.tuple (SqT.of (K := X.K) e2)
        refine ⟨_, _, .cons (.tuple ho hc hd (keys_read rv)) q2, .cons q1 q3, ?_, ?_⟩
        · simpa using z2
        · simp only [List.mem_append, not_or]; exact ⟨z1, z3⟩
end
end
end Dl
set_option Elab.async false
set_option linter.all false
set_option maxRecDepth 100000
namespace Dl
open PySem PySem.Spec PyProof.Rows L2

/-! ### operations by what they do -/
def semO (X : Cx) (f : Value → Value → Sem Value) : R2 := fun x y H Q => ∀ pins sh s v u, Inv X pins s H sh → RelV x v → RelV y u → wpAny (model X.prog X.w) X.A (f v u) (EP X pins s Q) X.xe sh
theorem op_sem {X : Cx} {f : Value → Value → Sem Value} : OpR X f (semO X f) := fun pins sh s _ _ _ v u _ I rx ry h => h pins sh s v u I rx ry
theorem semO_of {X : Cx} {f : Value → Value → Sem Value} {r : R2} (h : OpR X f r) {x y : V} {H : Hp} {Q : VK} (q : r x y H Q) : semO X f x y H Q := fun pins sh s v u I rx ry => h pins sh s H x y v u Q I rx ry q
theorem semO_mono {X : Cx} {f : Value → Value → Sem Value} {x y : V} {H : Hp} {Q Q' : VK} (h : semO X f x y H Q) (k : ∀ v H', Q v H' → Q' v H') : semO X f x y H Q' := fun pins sh s v u I rx ry =>
  thn (h pins sh s v u I rx ry) fun _ _ ⟨v, H', I', r, q⟩ => ⟨v, H', I', r, k v H' q⟩
def semC (X : Cx) (f : Value) : List V → Hp → VK → Prop := fun xs H Q => ∀ pins sh s us, Inv X pins s H sh → Vals xs us → wpAny (model X.prog X.w) X.A (call f us) (EP X pins s Q) X.xe sh
theorem call_sem {X : Cx} {f : Value} : CallR X f (semC X f) := fun pins sh s _ _ us _ I r h => h pins sh s us I r
theorem semC_of {X : Cx} {f : Value} {r : List V → Hp → VK → Prop} (h : CallR X f r) {xs : List V} {H : Hp} {Q : VK} (q : r xs H Q) : semC X f xs H Q := fun pins sh s us I rv => h pins sh s H xs us Q I rv q
theorem semC_mono {X : Cx} {f : Value} {xs : List V} {H : Hp} {Q Q' : VK} (h : semC X f xs H Q) (k : ∀ v H', Q v H' → Q' v H') : semC X f xs H Q' := fun pins sh s us I r =>
  thn (h pins sh s us I r) fun _ _ ⟨v, H', I', r, q⟩ => ⟨v, H', I', r, k v H' q⟩
def semI (X : Cx) : R2 := fun x y H Q => ∀ pins sh s v u, Inv X pins s H sh → RelV x v → RelV y u → wpAny (model X.prog X.w) X.A (getItem v u) (EP X pins s Q) X.xe sh

abbrev R2d := W → W → MH → (W → MH → Prop) → Prop
abbrev R1d := W → MH → (W → MH → Prop) → Prop
abbrev RCd := List W → MH → (W → MH → Prop) → Prop
/-- a two-place operation over data -/
def Op2 (Y : Dx) (f : Value → Value → Sem Value) (r : R2d) : Prop := ∀ s H σ M x y a b Q, Std Y s H σ M → Wv Y.X.K H M x a → Wv Y.X.K H M y b → r a b M Q → semO Y.X f x y H (up Y H M Q)
/-- a call of a built-in with data -/
def OpC (Y : Dx) (f : Value) (r : RCd) : Prop := ∀ s H σ M xs ws Q, Std Y s H σ M → WvA Y.X.K H M xs ws → r ws M Q → semC Y.X f xs H (up Y H M Q)

/-! ### values from data -/
section
variable {K : PySem.W.Frag} {H : Hp} {M : MH} {v : V}
theorem Wv.int {i : Int} (h : Wv K H M v (.d (.int i))) : v = .int i := by cases h; rfl
theorem Wv.bool {b : Bool} (h : Wv K H M v (.d (.bool b))) : v = .bl b := by cases h; rfl
theorem Wv.str {x : Str} (h : Wv K H M v (.d (.str x))) : v = .str x := by cases h; rfl
theorem Wv.none (h : Wv K H M v (.d .none)) : v = .non := by cases h; rfl
theorem wInt (i : Int) : Wv K H M (.int i) (.d (.int i)) := Fz.int i
theorem wBool (b : Bool) : Wv K H M (.bl b) (.d (.bool b)) := Fz.bl b
theorem wStr (x : Str) : Wv K H M (.str x) (.d (.str x)) := Fz.str x
theorem wNone : Wv K H M .non (.d .none) := Fz.non
theorem Wv.tup {ds : List PyData} (h : Wv K H M v (.d (.tuple ds))) : ∃ a xs, v = .ref a ∧ FT K H M a xs ∧ FzA K H M xs ds := by cases h with | tup h1 h2 => exact ⟨_, _, rfl, h1, h2⟩
theorem Wv.lst {ds : List PyData} (h : Wv K H M v (.d (.list ds))) : ∃ a xs, v = .ref a ∧ FL H M a xs ∧ FzA K H M xs ds := by cases h with | lst h1 h2 => exact ⟨_, _, rfl, h1, h2⟩
end
section
variable {Y : Dx} {s : L2.St} {H : Hp} {σ : SD} {M : MH} {Q : W → MH → Prop}
theorem std_new (S : Std Y s H σ M) {p : Addr} (n : H p = none) {o : HO} {x : PyData} (k : Ext H M (upd H p o) M → M p = none → Fz Y.X.K (upd H p o) M (.ref p) x) (q : Q (.d x) M) : up Y H M Q (.ref p) (upd H p o) := by
  have m := S.d.free n
  have e := ext_new (o := o) n m
  exact ⟨.d x, M, e, dok_new S.d n, k e m, q⟩
theorem up_tup (S : Std Y s H σ M) {p : Addr} (n : H p = none) {xs : List V} {ds : List PyData} (h : FzA Y.X.K H M xs ds) (q : Q (.d (.tuple ds)) M) : up Y H M Q (.ref p) (upd H p (.tup xs)) :=
  std_new S n (fun e m => .tup (.inl ⟨.inl upd_same, m⟩) (FzA.ext e ds xs h)) q
theorem up_lst (S : Std Y s H σ M) {p : Addr} (n : H p = none) {xs : List V} {ds : List PyData} (h : FzA Y.X.K H M xs ds) (q : Q (.d (.list ds)) M) : up Y H M Q (.ref p) (upd H p (.lst xs)) :=
  std_new S n (fun e m => .lst ⟨upd_same, m⟩ (FzA.ext e ds xs h)) q
theorem up_mut (S : Std Y s H σ M) {p : Addr} (n : H p = none) {xs : List V} {ws : List W} (h : WvA Y.X.K H M xs ws) (q : Q (.ref p) (mset M p (.lst ws))) : up Y H M Q (.ref p) (upd H p (.lst xs)) :=
  ⟨.ref p, _, ext_mut (.inr n), dok_mut (u := .lst ws) S.d (.inr n) fun e => ⟨xs, upd_same, WvA.ext e h⟩, rfl, q⟩
/-- a tracked list that may change is changed -/
theorem up_set (S : Std Y s H σ M) {p : Addr} {ws0 : List W} (m : M p = some (.lst ws0)) {xs : List V} {ws : List W} (h : WvA Y.X.K H M xs ws) {v : V} {w : W} (hv : Wv Y.X.K H M v w) (q : Q w (mset M p (.lst ws))) : up Y H M Q v (upd H p (.lst xs)) := by
  have nn : M p ≠ none := by rw [m]; exact fun z => by cases z
  have e : Ext H M (upd H p (.lst xs)) (mset M p (.lst ws)) := ext_mut (.inl nn)
  exact ⟨w, _, e, dok_mut (u := .lst ws) S.d (.inl nn) fun e => ⟨xs, upd_same, WvA.ext e h⟩, hv.ext e, q⟩
end

/-! ### names, constants -/
def slotQ : SD → Nat → (W → Prop) → Prop
  | [], _, _ => False
  | o :: _, 0, Q => match o with | some w => Q w | none => False
  | _ :: t, n + 1, Q => slotQ t n Q
theorem slotQ_get : ∀ {σ : SD} {i : Nat} {Q : W → Prop}, slotQ σ i Q → ∃ w, σ[i]? = some (some w) ∧ Q w
  | [], _, _, h => h.elim
  | o :: _, 0, Q, h => by
    cases o with
    | none => exact (show False from h).elim
    | some w => exact ⟨w, rfl, h⟩
  | _ :: t, n + 1, Q, h => slotQ_get (σ := t) (i := n) h
def tVar (i : Nat) : TEd := fun σ M Q => slotQ σ i fun w => Q w M
def tK (x : PyData) : TEd := fun _ M Q => Q (.d x) M
section
variable {g : Gc} {i : Si} {k : Nat} {Y : Dx}
theorem q_var (F : Fm g i k Y) (j : Nat) {x : Str} {pos : Pos} (hN : i.N[j]? = some x := by rfl) (hv : i.vis.contains j = true := by rfl) : QE Y (.Name x pos) (tVar j) := by
  refine ⟨fun s H σ M Q S h => ?_⟩
  obtain ⟨w, e, q⟩ := slotQ_get h
  obtain ⟨v, ev, r⟩ := S.s.get e
  obtain ⟨h1, h2, h3⟩ := F.var j x hv hN
  exact semE_of (pe_var (i := j) (by rw [F.N]; exact hN) h1 h2 h3) ⟨v, ev, S.here r q⟩
theorem q_int {Y : Dx} {n j pos} : QE Y (.Constant (.int n) j pos) (tK (.int n)) := ⟨fun _ _ _ _ _ S h => semE_of pe_int (S.here (wInt n) h)⟩
theorem q_bool {Y : Dx} {b j pos} : QE Y (.Constant (.bool b) j pos) (tK (.bool b)) := ⟨fun _ _ _ _ _ S h => semE_of pe_bl (S.here (wBool b) h)⟩
theorem q_none {Y : Dx} {j pos} : QE Y (.Constant .none j pos) (tK .none) := ⟨fun _ _ _ _ _ S h => semE_of pe_non (S.here wNone h)⟩
theorem q_str {Y : Dx} {x j pos} : QE Y (.Constant (.str x) j pos) (tK (.str x)) := ⟨fun _ _ _ _ _ S h => semE_of pe_str (S.here (wStr x) h)⟩
/-- a constant of the module -/
theorem q_glob (F : Fm g i k Y) (j : Nat) {x : Str} {pos : Pos} {v : V} {u : Value} {d : PyData} (hm : g.mg x = some u) (r : RelV v u) (hd : ∀ H M, Fz g.K H M v d) (hj : i.gls[j]? = some x := by rfl) : QE Y (.Name x pos) (tK d) := by
  obtain ⟨h1, h2, h3⟩ := F.glo j x hj
  exact ⟨fun s H σ M Q S h => semE_of (pe_glob h1 (by rw [F.hmg]; exact hm) r h2) (S.here (w := .d d) (by rw [F.hK]; exact hd H M) h)⟩

/-! ### operators -/
def tBin (r : R2d) (ta tb : TEd) : TEd := fun σ M Q => ta σ M fun x M1 => tb σ M1 fun y M2 => r x y M2 Q
theorem bin_run {f : Value → Value → Sem Value} {r : R2d} {a b : Expr} {ta tb : TEd} (ho : Op2 Y f r) (ha : QE Y a ta) (hb : QE Y b tb) {s H σ M Q} (S : Std Y s H σ M) (h : tBin r ta tb σ M Q) :
    tOp (semO Y.X f) (semE Y.X a) (semE Y.X b) s H (up Y H M Q) :=
  ha.then_ S h fun _ H1 _ _ e d rv q => hb.then_ (S.go e d) q fun _ _ _ _ e2 d2 rv2 q2 => semO_mono (ho _ _ _ _ _ _ _ _ _ ((S.go e d).go e2 d2) (rv.ext e2) rv2 q2) fun _ _ z => z.trans (e.trans e2)
theorem q_bin {op : Operator} {r : R2d} {a b : Expr} {ta tb : TEd} {pos : Pos} (ho : Op2 Y (binaryOp op) r) (ha : QE Y a ta) (hb : QE Y b tb) : QE Y (.BinOp a op b pos) (tBin r ta tb) :=
  ⟨fun _ _ _ _ _ S h => semE_of (pe_op op_sem pe_sem pe_sem) (bin_run ho ha hb S h)⟩
theorem q_cmp {op : CmpOp} {r : R2d} {a b : Expr} {ta tb : TEd} {pos : Pos} (ho : Op2 Y (compareOp op) r) (ha : QE Y a ta) (hb : QE Y b tb) (hm : behindInMarks op b = false := by first | exact nomark _ | rfl) : QE Y (.Compare a [op] [b] pos) (tBin r ta tb) :=
  ⟨fun _ _ _ _ _ S h => semE_of (pe_cmpR op_sem pe_sem pe_sem hm) (bin_run ho ha hb S h)⟩
def boolQ (Q : Bool → MH → Prop) : W → MH → Prop := fun w M => match w with | .d (.bool b) => Q b M | _ => False
theorem boolQ_get {Q : Bool → MH → Prop} {w : W} {M : MH} (h : boolQ Q w M) : ∃ b, w = .d (.bool b) ∧ Q b M := by
  cases w with
  | d x => cases x with
    | bool b => exact ⟨b, rfl, h⟩
    | _ => exact (show False from h).elim
  | _ => exact (show False from h).elim
/-- an expression that gives a truth, as a test -/
def tTst (t : TEd) : TTd := fun σ M Q => t σ M (boolQ Q)
theorem up_bool {H : Hp} {M : MH} {Q : Bool → MH → Prop} {v : V} {H' : Hp} (h : up Y H M (boolQ Q) v H') : ∃ c, v = .bl c ∧ upB Y H M Q c H' := by
  obtain ⟨w, M', e, d, r, q⟩ := h
  obtain ⟨b, rfl, q0⟩ := boolQ_get q
  exact ⟨b, r.bool, M', e, d, q0⟩
theorem t_cmp {op : CmpOp} {r : R2d} {a b : Expr} {ta tb : TEd} {pos : Pos} (ho : Op2 Y (compareOp op) r) (ha : QE Y a ta) (hb : QE Y b tb) (hm : behindInMarks op b = false := by first | exact nomark _ | rfl) : QT Y (.Compare a [op] [b] pos) (tTst (tBin r ta tb)) := by
  refine ⟨fun s H σ M Q S h => semT_of (pt_cmpR op_sem pe_sem pe_sem hm) ?_⟩
  have z := bin_run ho ha hb S h
  exact semE_mono z fun _ _ z1 => semE_mono z1 fun _ _ z2 => semO_mono z2 fun _ _ z3 => up_bool z3
theorem t_val {e : Expr} {t : TEd} (h : QE Y e t) (he : ∀ whole, isTrue e Y.X.env whole = (do let v ← whole; standAt e.pos; holding [v] (truthy v)) := by intro _; rfl) : QT Y e (tTst t) :=
  ⟨fun s H σ M Q S hq => semT_of (pt_val pe_sem he) (semE_mono (h.run s H σ M _ S hq) fun _ _ z => up_bool z)⟩
/-- a op1 b op2 c -/
def tChn (r r' : R2d) (ta tb tc : TEd) : TEd := fun σ M Q => ta σ M fun x M1 => tb σ M1 fun y M2 => r x y M2 (boolQ fun k M3 => if k = true then tc σ M3 fun z M4 => r' y z M4 Q else Q (.d (.bool false)) M3)
theorem chain_run {f f' : Value → Value → Sem Value} {r r' : R2d} {a b c : Expr} {ta tb tc : TEd} (ho : Op2 Y f r) (ho' : Op2 Y f' r') (ha : QE Y a ta) (hb : QE Y b tb) (hc : QE Y c tc) {s H σ M Q} (S : Std Y s H σ M) (h : tChn r r' ta tb tc σ M Q) :
    tChain (semO Y.X f) (semO Y.X f') (semE Y.X a) (semE Y.X b) (semE Y.X c) s H (up Y H M Q) := by
  refine ha.then_ S h fun _ H1 _ _ e d rv q => hb.then_ (S.go e d) q fun _ _ _ _ e2 d2 rv2 q2 => ?_
  have S2 := (S.go e d).go e2 d2
  refine semO_mono (ho _ _ _ _ _ _ _ _ _ S2 (rv.ext e2) rv2 q2) fun _ _ z => ?_
  obtain ⟨w, M3, e3, d3, r3, q3⟩ := z
  obtain ⟨b', rfl, q0⟩ := boolQ_get q3
  clear q3
  have q3 := q0
  clear q0
  refine ⟨b', r3.bool, ?_⟩
  cases b' with
  | true =>
    refine iteT ?_
    refine hc.then_ (S2.go e3 d3) (show tc σ M3 _ from by simpa using q3) fun _ _ _ _ e4 d4 rv4 q4 => ?_
    exact semO_mono (ho' _ _ _ _ _ _ _ _ _ ((S2.go e3 d3).go e4 d4) (rv2.ext (e3.trans e4)) rv4 q4) fun _ _ z => z.trans ((e.trans e2).trans (e3.trans e4))
  | false =>
    refine iteF ?_
    exact ⟨_, M3, (e.trans e2).trans e3, d3, wBool false, by simpa using q3⟩
theorem q_chn {op op' : CmpOp} {r r' : R2d} {a b c : Expr} {ta tb tc : TEd} {pos : Pos} (ho : Op2 Y (compareOp op) r) (ho' : Op2 Y (compareOp op') r') (ha : QE Y a ta) (hb : QE Y b tb) (hc : QE Y c tc)
    (hm : lastMarks [op, op'] [b, c] = false := by with_unfolding_all rfl) : QE Y (.Compare a [op, op'] [b, c] pos) (tChn r r' ta tb tc) :=
  ⟨fun _ _ _ _ _ S h => semE_of (pe_chain op_sem op_sem pe_sem pe_sem pe_sem hm) (chain_run ho ho' ha hb hc S h)⟩
theorem t_chn {op op' : CmpOp} {r r' : R2d} {a b c : Expr} {ta tb tc : TEd} {pos : Pos} (ho : Op2 Y (compareOp op) r) (ho' : Op2 Y (compareOp op') r') (ha : QE Y a ta) (hb : QE Y b tb) (hc : QE Y c tc)
    (hm : lastMarks [op, op'] [b, c] = false := by with_unfolding_all rfl) : QT Y (.Compare a [op, op'] [b, c] pos) (tTst (tChn r r' ta tb tc)) := by
  refine ⟨fun s H σ M Q S h => semT_of (pt_chain op_sem op_sem pe_sem pe_sem pe_sem hm) ?_⟩
  have z := chain_run ho ho' ha hb hc S h
  refine semE_mono z fun _ _ z1 => semE_mono z1 fun _ _ z2 => semO_mono z2 fun _ _ ⟨k, e, z3⟩ => ⟨k, e, ?_⟩
  cases k with
  | true => exact iteT (semE_mono (by simpa using z3) fun _ _ z4 => semO_mono z4 fun _ _ z5 => up_bool z5)
  | false => exact iteF (up_bool (by simpa using z3))

/-! ### and, or, not, if -/
def tAndT (t u : TTd) : TTd := fun σ M Q => t σ M fun c M1 => if c = true then u σ M1 Q else Q false M1
def tOrT (t u : TTd) : TTd := fun σ M Q => t σ M fun c M1 => if c = true then Q true M1 else u σ M1 Q
def tNotT (t : TTd) : TTd := fun σ M Q => t σ M fun c M1 => Q (!c) M1
theorem QW.pt {e : Expr} {t : TTd} (h : QW Y e t) : QT Y e t := ⟨fun s H σ M Q S hq => semT_of pw_sem.pt (h.run s H σ M Q S hq)⟩
theorem w_and1 {a : Expr} {t : TTd} {pos : Pos} (ha : QT Y a t) : QW Y (.BoolOp .And [a] pos) t := ⟨fun s H σ M Q S hq => semW_of (pw_and1 pt_sem) (ha.run s H σ M Q S hq)⟩
theorem w_or1 {a : Expr} {t : TTd} {pos : Pos} (ha : QT Y a t) : QW Y (.BoolOp .Or [a] pos) t := ⟨fun s H σ M Q S hq => semW_of (pw_or1 pt_sem) (ha.run s H σ M Q S hq)⟩
theorem semW_mono {X : Cx} {e : Expr} {s : L2.St} {H : Hp} {Q Q' : Bool → Hp → Prop} (h : semW X e s H Q) (k : ∀ v H', Q v H' → Q' v H') : semW X e s H Q' := fun wh pins sh I =>
  thn (h wh pins sh I) fun _ _ ⟨H', I', q⟩ => ⟨H', I', k _ H' q⟩
theorem w_and {a b : Expr} {rest : List Expr} {t u : TTd} {pos : Pos} (ha : QT Y a t) (hb : QW Y (.BoolOp .And (b :: rest) pos) u) : QW Y (.BoolOp .And (a :: b :: rest) pos) (tAndT t u) := by
  refine ⟨fun s H σ M Q S hq => semW_of (pw_and pt_sem pw_sem) (ha.then_ S hq fun c H1 M1 e d q => ?_)⟩
  cases c with
  | true => exact iteT (semW_mono (hb.run s H1 σ M1 Q (S.go e d) (by simpa using q)) fun _ _ z => z.trans e)
  | false => exact iteF ⟨M1, e, d, by simpa using q⟩
theorem w_or {a b : Expr} {rest : List Expr} {t u : TTd} {pos : Pos} (ha : QT Y a t) (hb : QW Y (.BoolOp .Or (b :: rest) pos) u) : QW Y (.BoolOp .Or (a :: b :: rest) pos) (tOrT t u) := by
  refine ⟨fun s H σ M Q S hq => semW_of (pw_or pt_sem pw_sem) (ha.then_ S hq fun c H1 M1 e d q => ?_)⟩
  cases c with
  | true => exact iteT ⟨M1, e, d, by simpa using q⟩
  | false => exact iteF (semW_mono (hb.run s H1 σ M1 Q (S.go e d) (by simpa using q)) fun _ _ z => z.trans e)
theorem t_not {a : Expr} {t : TTd} {pos : Pos} (ha : QT Y a t) : QT Y (.UnaryOp .Not a pos) (tNotT t) :=
  ⟨fun s H σ M Q S hq => semT_of (pt_not pt_sem) (ha.run s H σ M (fun c M1 => Q (!c) M1) S hq)⟩
/-- as values, all of them truths -/
def tAnd2 (ta tb : TEd) : TEd := fun σ M Q => ta σ M (boolQ fun c M1 => if c = true then tb σ M1 Q else Q (.d (.bool false)) M1)
def tOr2 (ta tb : TEd) : TEd := fun σ M Q => ta σ M (boolQ fun c M1 => if c = true then Q (.d (.bool true)) M1 else tb σ M1 Q)
def tNot2 (ta : TEd) : TEd := fun σ M Q => ta σ M (boolQ fun c M1 => Q (.d (.bool !c)) M1)
theorem q_one {op} {a : Expr} {t : TEd} {pos : Pos} (h : QE Y a t) : QE Y (.BoolOp op [a] pos) t := ⟨fun s H σ M Q S hq => semE_of (pe_one pe_sem) (h.run s H σ M Q S hq)⟩
theorem q_and {a b : Expr} {rest : List Expr} {t u : TEd} {pos : Pos} (ha : QE Y a t) (hb : QE Y (.BoolOp .And (b :: rest) pos) u) : QE Y (.BoolOp .And (a :: b :: rest) pos) (tAnd2 t u) := by
  refine ⟨fun s H σ M Q S hq => semE_of (pe_and pe_sem pe_sem) (ha.then_ S hq fun v H1 w M1 e d r q => ?_)⟩
  obtain ⟨c, rfl, q0⟩ := boolQ_get q
  clear q
  have q := q0
  clear q0
  refine ⟨c, r.bool, ?_⟩
  cases c with
  | true => exact iteT (semE_mono (hb.run s H1 σ M1 Q (S.go e d) (by simpa using q)) fun _ _ z => z.trans e)
  | false => exact iteF ⟨_, M1, e, d, wBool false, by simpa using q⟩
theorem q_or {a b : Expr} {rest : List Expr} {t u : TEd} {pos : Pos} (ha : QE Y a t) (hb : QE Y (.BoolOp .Or (b :: rest) pos) u) : QE Y (.BoolOp .Or (a :: b :: rest) pos) (tOr2 t u) := by
  refine ⟨fun s H σ M Q S hq => semE_of (pe_or pe_sem pe_sem) (ha.then_ S hq fun v H1 w M1 e d r q => ?_)⟩
  obtain ⟨c, rfl, q0⟩ := boolQ_get q
  clear q
  have q := q0
  clear q0
  refine ⟨c, r.bool, ?_⟩
  cases c with
  | true => exact iteT ⟨_, M1, e, d, wBool true, by simpa using q⟩
  | false => exact iteF (semE_mono (hb.run s H1 σ M1 Q (S.go e d) (by simpa using q)) fun _ _ z => z.trans e)
theorem q_not {a : Expr} {t : TEd} {pos : Pos} (ha : QE Y a t) : QE Y (.UnaryOp .Not a pos) (tNot2 t) := by
  refine ⟨fun s H σ M Q S hq => semE_of (pe_not pe_sem) (ha.then_ S hq fun v H1 w M1 e d r q => ?_)⟩
  obtain ⟨c, rfl, q0⟩ := boolQ_get q
  clear q
  have q := q0
  clear q0
  exact ⟨c, r.bool, ⟨_, M1, e, d, wBool (!c), q⟩⟩
def tIte (t : TTd) (ta tb : TEd) : TEd := fun σ M Q => t σ M fun c M1 => if c = true then ta σ M1 Q else tb σ M1 Q
theorem q_ite {c a b : Expr} {t : TTd} {ta tb : TEd} {pos : Pos} (hc : QT Y c t) (ha : QE Y a ta) (hb : QE Y b tb) : QE Y (.IfExp c a b pos) (tIte t ta tb) := by
  refine ⟨fun s H σ M Q S hq => semE_of (pe_ifExp pt_sem pe_sem pe_sem) (hc.then_ S hq fun c H1 M1 e d q => ?_)⟩
  cases c with
  | true => exact iteT (semE_mono (ha.run s H1 σ M1 Q (S.go e d) (by simpa using q)) fun _ _ z => z.trans e)
  | false => exact iteF (semE_mono (hb.run s H1 σ M1 Q (S.go e d) (by simpa using q)) fun _ _ z => z.trans e)

/-! ### arguments, displays -/
def tNilA : TAd := fun _ M Q => Q [] M
def tConsA (t : TEd) (u : TAd) : TAd := fun σ M Q => t σ M fun x M1 => u σ M1 fun xs M2 => Q (x :: xs) M2
theorem a_nil : QA Y [] tNilA := ⟨fun _ _ _ _ _ S h => semA_of pa_nil ⟨[], _, .refl _ _, S.d, .nil, h⟩⟩
theorem a_cons {e : Expr} {es : List Expr} {t : TEd} {u : TAd} (ha : QE Y e t) (hr : QA Y es u) (hs : starEach (e :: es) Y.X.env = (false, eval e Y.X.env) :: starEach es Y.X.env := by rfl) : QA Y (e :: es) (tConsA t u) := by
  refine ⟨fun s H σ M Q S h => semA_of (pa_cons pe_sem pa_sem hs) (ha.then_ S h fun v H1 w M1 e d r q => hr.then_ (S.go e d) q fun vs H2 ws M2 e2 d2 r2 q2 => ?_)⟩
  exact ⟨w :: ws, M2, e.trans e2, d2, .cons (r.ext e2) r2, q2⟩
def allD : List W → Option (List PyData)
  | [] => some []
  | .d x :: r => (allD r).map (x :: ·)
  | _ => none
theorem allD_eq : ∀ {ws : List W} {ds : List PyData}, allD ws = some ds → ws = ds.map W.d
  | [], _, h => by cases h; rfl
  | .d x :: r, _, h => by
    unfold allD at h
    cases e : allD r with
    | none => rw [e] at h; cases h
    | some es =>
      rw [e] at h
      cases h
      rw [allD_eq e]
      rfl
  | .ref a :: r, _, h => by cases h
  | .scr a :: r, _, h => by cases h
theorem allD_map : ∀ (ds : List PyData), allD (ds.map W.d) = some ds
  | [] => rfl
  | d :: ds => by show (allD (ds.map W.d)).map (d :: ·) = _; rw [allD_map ds]; rfl
def dataQ (Q : List PyData → MH → Prop) (ws : List W) (M : MH) : Prop := match allD ws with | some ds => Q ds M | none => False
theorem dataQ_get {Q : List PyData → MH → Prop} {ws : List W} {M : MH} (h : dataQ Q ws M) : ∃ ds, ws = ds.map W.d ∧ Q ds M := by
  unfold dataQ at h
  cases e : allD ws with
  | none => rw [e] at h; exact h.elim
  | some ds => rw [e] at h; exact ⟨ds, allD_eq e, h⟩
def small (n : Nat) : Prop := n ≤ sizeLine
theorem small_of {n : Nat} (h : n ≤ 16777216) : small n := by unfold small; rw [sizeLine_eq]; exact h
def tTup (t : TAd) : TEd := fun σ M Q => t σ M (dataQ fun ds M1 => small ds.length ∧ Q (.d (.tuple ds)) M1)
def tLst (t : TAd) : TEd := fun σ M Q => t σ M (dataQ fun ds M1 => small ds.length ∧ Q (.d (.list ds)) M1)
/-- a list that may change -/
def tLstM (t : TAd) : TEd := fun σ M Q => t σ M fun ws M1 => small ws.length ∧ ∀ p, M1 p = none → Q (.ref p) (mset M1 p (.lst ws))
theorem q_tup {es : List Expr} {t : TAd} {x1} {pos : Pos} (h : QA Y es t) : QE Y (.Tuple es x1 pos) (tTup t) := by
  refine ⟨fun s H σ M Q S hq => semE_of (pe_tup pa_sem) (h.then_ S hq fun vs H1 ws M1 e d r q => ?_)⟩
  obtain ⟨ds, rfl, hz, q0⟩ := dataQ_get q
  clear q
  have q := q0
  clear q0
  have r' := FzA.of_wv r
  exact ⟨by rw [r'.length]; exact hz, fun p n => (up_tup (S.go e d) n r' q).trans e⟩
theorem q_lst {es : List Expr} {t : TAd} {pos : Pos} (h : QA Y es t) : QE Y (.List es pos) (tLst t) := by
  refine ⟨fun s H σ M Q S hq => semE_of (pe_lst pa_sem) (h.then_ S hq fun vs H1 ws M1 e d r q => ?_)⟩
  obtain ⟨ds, rfl, hz, q0⟩ := dataQ_get q
  clear q
  have q := q0
  clear q0
  have r' := FzA.of_wv r
  exact ⟨by rw [r'.length]; exact hz, fun p n => (up_lst (S.go e d) n r' q).trans e⟩
theorem q_lstM {es : List Expr} {t : TAd} {pos : Pos} (h : QA Y es t) : QE Y (.List es pos) (tLstM t) := by
  refine ⟨fun s H σ M Q S hq => semE_of (pe_lst pa_sem) (h.then_ S hq fun vs H1 ws M1 e d r q => ?_)⟩
  obtain ⟨hz, q⟩ := q
  exact ⟨by rw [Paired.length r]; exact hz, fun p n => (up_mut (S.go e d) n r (q p (d.free n))).trans e⟩
end
end Dl
set_option Elab.async false
set_option linter.all false
set_option maxRecDepth 100000
namespace Dl
open PySem PySem.Spec PyProof.Rows L2

section
variable {Y : Dx}
/-! ### from the hand layer's rules -/
theorem op2_of {f : Value → Value → Sem Value} {r0 : R2} {r : R2d} (h : OpR Y.X f r0) (k : ∀ s H σ M x y a b Q, Std Y s H σ M → Wv Y.X.K H M x a → Wv Y.X.K H M y b → r a b M Q → r0 x y H (up Y H M Q)) : Op2 Y f r :=
  fun s H σ M x y a b Q S rx ry q => semO_of h (k s H σ M x y a b Q S rx ry q)
theorem opC_of {f : Value} {r0 : List V → Hp → VK → Prop} {r : RCd} (h : CallR Y.X f r0) (k : ∀ s H σ M xs ws Q, Std Y s H σ M → WvA Y.X.K H M xs ws → r ws M Q → r0 xs H (up Y H M Q)) : OpC Y f r :=
  fun s H σ M xs ws Q S rx q => semC_of h (k s H σ M xs ws Q S rx q)

/-! ### whole numbers -/
def rInt (C : Int → Int → Prop) (f : Int → Int → PyData) : R2d := fun a b M Q => match a, b with
  | .d (.int i), .d (.int j) => C i j ∧ Q (.d (f i j)) M
  | _, _ => False
def rInt0 (f : Int → Int → PyData) : R2d := fun a b M Q => match a, b with
  | .d (.int i), .d (.int j) => Q (.d (f i j)) M
  | _, _ => False
theorem rInt_get {C : Int → Int → Prop} {f : Int → Int → PyData} {a b : W} {M : MH} {Q : W → MH → Prop} (h : rInt C f a b M Q) : ∃ i j, a = .d (.int i) ∧ b = .d (.int j) ∧ C i j ∧ Q (.d (f i j)) M := by
  unfold rInt at h
  split at h
  · exact ⟨_, _, rfl, rfl, h⟩
  · exact h.elim
theorem rInt0_get {f : Int → Int → PyData} {a b : W} {M : MH} {Q : W → MH → Prop} (h : rInt0 f a b M Q) : ∃ i j, a = .d (.int i) ∧ b = .d (.int j) ∧ Q (.d (f i j)) M := by
  unfold rInt0 at h
  split at h
  · exact ⟨_, _, rfl, rfl, h⟩
  · exact h.elim
theorem op2_int {f : Value → Value → Sem Value} {C : Int → Int → Prop} {fv : Int → Int → V} {fd : Int → Int → PyData} (h : OpR Y.X f (rI C fv)) (e : ∀ K H M i j, Fz K H M (fv i j) (fd i j)) : Op2 Y f (rInt C fd) :=
  op2_of h fun s H σ M x y a b Q S rx ry q => by
    obtain ⟨i, j, rfl, rfl, c, q⟩ := rInt_get q
    exact ⟨i, j, rx.int, ry.int, c, S.here (w := .d (fd i j)) (e _ _ _ _ _) q⟩
theorem op2_int0 {f : Value → Value → Sem Value} {fv : Int → Int → V} {fd : Int → Int → PyData} (h : OpR Y.X f (rI0 fv)) (e : ∀ K H M i j, Fz K H M (fv i j) (fd i j)) : Op2 Y f (rInt0 fd) :=
  op2_of h fun s H σ M x y a b Q S rx ry q => by
    obtain ⟨i, j, rfl, rfl, q⟩ := rInt0_get q
    exact ⟨i, j, rx.int, ry.int, S.here (w := .d (fd i j)) (e _ _ _ _ _) q⟩
theorem o_sub : Op2 Y (binaryOp .Sub) (rInt0 fun i j => .int (i - j)) := op2_int0 op_sub fun _ _ _ _ _ => Fz.int _
def mulOk (i j : Int) : Prop := i.natAbs.log2 + j.natAbs.log2 < 1000000
theorem o_mul : Op2 Y (binaryOp .Mult) (rInt mulOk fun i j => .int (i * j)) := op2_int (C := CMulW) op_mulW fun _ _ _ _ _ => Fz.int _
def divOk (_ j : Int) : Prop := j ≠ 0 ∧ j.natAbs.log2 < 9000
theorem op_fdivA {X : Cx} : OpR X (binaryOp .FloorDiv) (rI divOk fun i j => .int (i.fdiv j)) := opI fun i j _ _ _ _ _ hc q => floordiv_int hc.1 q (.inl (PyProof.noPylong_of_log2 hc.2))
theorem o_fdiv : Op2 Y (binaryOp .FloorDiv) (rInt divOk fun i j => .int (i.fdiv j)) := op2_int op_fdivA fun _ _ _ _ _ => Fz.int _
theorem o_mod : Op2 Y (binaryOp .Mod) (rInt (fun _ j => j ≠ 0) fun i j => .int (i.fmod j)) := op2_int op_modN fun _ _ _ _ _ => Fz.int _
def powOk (i j : Int) : Prop := 0 ≤ j ∧ (Builtin.Int.intBits i : Int) * j ≤ 2 ^ 27
theorem op_powA {X : Cx} : OpR X (binaryOp .Pow) (rI powOk fun i j => .int (i ^ j.toNat)) := opI fun i j _ _ _ _ _ hc q => pow_int hc.1 hc.2 q
theorem o_pow : Op2 Y (binaryOp .Pow) (rInt powOk fun i j => .int (i ^ j.toNat)) := op2_int op_powA fun _ _ _ _ _ => Fz.int _
theorem o_lt : Op2 Y (compareOp .Lt) (rInt0 fun i j => .bool (decide (i < j))) := op2_int0 op_lt fun _ _ _ _ _ => Fz.bl _
theorem o_le : Op2 Y (compareOp .LtE) (rInt0 fun i j => .bool (decide (i ≤ j))) := op2_int0 op_le fun _ _ _ _ _ => Fz.bl _
theorem o_gt : Op2 Y (compareOp .Gt) (rInt0 fun i j => .bool (decide (j < i))) := op2_int0 op_gt fun _ _ _ _ _ => Fz.bl _
theorem o_ge : Op2 Y (compareOp .GtE) (rInt0 fun i j => .bool (decide (j ≤ i))) := op2_int0 op_ge fun _ _ _ _ _ => Fz.bl _

/-! ### + -/
def rAdd : R2d := fun a b M Q => match a, b with
  | .d (.int i), .d (.int j) => Q (.d (.int (i + j))) M
  | .d (.str x), .d (.str y) => small (x.length + y.length) ∧ Q (.d (.str (x ++ y))) M
  | .d (.tuple x), .d (.tuple y) => small (x.length + y.length) ∧ Q (.d (.tuple (x ++ y))) M
  | .d (.list x), .d (.list y) => small (x.length + y.length) ∧ Q (.d (.list (x ++ y))) M
  | _, _ => False
theorem o_add : Op2 Y (binaryOp .Add) rAdd := by
  intro s H σ M x y a b Q S rx ry q
  unfold rAdd at q
  split at q
  · exact semO_of op_add ⟨_, _, rx.int, ry.int, S.here (wInt _) q⟩
  · exact semO_of op_add_str ⟨_, _, rx.str, ry.str, q.1, S.here (wStr _) q.2⟩
  · rename_i ds es
    obtain ⟨p, xs, rfl, h1, h2⟩ := rx.tup
    obtain ⟨p', ys, rfl, h3, h4⟩ := ry.tup
    obtain ⟨hz, q⟩ := q
    refine semO_of op_catA ⟨p, p', xs, ys, rfl, rfl, h1.sq, h3.sq, by rw [h2.length, h4.length]; exact hz, fun e => ?_, fun _ e => ?_, fun _ _ r n => up_tup S n (h2.append h4) q⟩
    · subst e
      cases h2
      exact S.here (w := .d (.tuple es)) (Fz.tup h3 h4) q
    · subst e
      cases h4
      rw [List.append_nil] at q
      exact S.here (w := .d (.tuple ds)) (Fz.tup h1 h2) q
  · obtain ⟨p, xs, rfl, h1, h2⟩ := rx.lst
    obtain ⟨p', ys, rfl, h3, h4⟩ := ry.lst
    obtain ⟨hz, q⟩ := q
    exact semO_of op_cat ⟨p, p', xs, ys, rfl, rfl, h1.1, h3.1, by rw [h2.length, h4.length]; exact hz, fun r n => up_lst S n (h2.append h4) q⟩
  · exact q.elim

/-! ### ==, != -/
def isTup : PyData → Bool | .tuple _ => true | _ => false
def bothS (x y : PyData) : Bool := match x, y with | .str _, .str _ => true | _, _ => false
def eqOk (x y : PyData) : Bool := bothS x y || (x.canLay0 && y.canLay0 && decide (min x.depth y.depth ≤ 64)) || (isTup x && match y with | .tuple [] => true | _ => false)
def rEqd : R2d := fun a b M Q => match a, b with
  | .d x, .d y => eqOk x y = true ∧ Q (.d (.bool (PyData.eqv x y))) M
  | _, _ => False
theorem eqv_tup_nil {xs : List PyData} : PyData.eqv (.tuple xs) (.tuple []) = xs.isEmpty := by
  cases xs <;> simp [PyData.eqv, PyData.eqvAll]
theorem eq_run {g : Gc} {i : Si} {k : Nat} (F : Fm g i k Y) {s' H M x y dx dy} {pins : List (Addr × Obj)} {sh : Shared} {v u : Value} {Q : Value → Shared → Prop} (I : Inv Y.X pins s' H sh) (rx : RelV x v) (ry : RelV y u)
    (hx : Fz Y.X.K H M x dx) (hy : Fz Y.X.K H M y dy) (ok : eqOk dx dy = true) (q : Q (.bool (PyData.eqv dx dy)) sh) : wpAny (model Y.X.prog Y.X.w) Y.X.A (compareOp .Eq v u) Q Y.X.xe sh := by
  obtain ⟨as, r1, _⟩ := Fz.reads I F.sy dx x v hx rx
  obtain ⟨bs, r2, _⟩ := Fz.reads I F.sy dy y u hy ry
  have hu := F.room.un
  unfold eqOk at ok
  rw [Bool.or_eq_true, Bool.or_eq_true] at ok
  rcases ok with (ok | ok) | ok
  · cases dx with
    | str a => cases dy with
      | str b =>
        cases r1
        cases r2
        exact PyProof.Rows.eq_str q
      | _ => cases ok
    | _ => cases ok
  · simp only [Bool.and_eq_true, decide_eq_true_eq] at ok
    exact SeqAt.compareEq_reads r1 r2 ok.1.1 ok.1.2 (by omega) q
  · rw [Bool.and_eq_true] at ok
    cases dx with
    | tuple xs =>
      cases dy with
      | tuple ys =>
        cases ys with
        | cons _ _ => exact absurd ok.2 (by simp)
        | nil =>
          rw [eqv_tup_nil] at q
          cases r1 with
          | @tuple _ o1 vs1 n1 _ _ h1 h2 h3 h4 =>
            cases r2 with
            | @tuple _ o2 vs2 n2 _ _ k1 k2 k3 k4 =>
              cases hv : vs2.toList with
              | cons _ _ => rw [hv] at k4; cases k4
              | nil =>
                have hs : vs2.size = 0 := by rw [← Array.length_toList, hv]; rfl
                refine SeqAt.eq_tupleAt (e := fun _ => true) ⟨o1, h1, h2, n1, h3⟩ ⟨o2, k1, k2, n2, k3⟩ (by omega) (fun j _ h => absurd h (by omega)) ?_
                have hl : vs1.size = xs.length := by rw [← Array.length_toList]; exact SeqAt.ReadsAll.length _ _ _ h4
                have e : ((List.range (min vs1.size vs2.size)).all (fun _ => true) && vs1.size == vs2.size) = xs.isEmpty := by
                  rw [hs, hl]
                  cases xs <;> simp
                rw [e]
                exact q
      | _ => exact absurd ok.2 (by simp)
    | _ => exact absurd ok.1 (by simp [isTup])
theorem ne_run {g : Gc} {i : Si} {k : Nat} (F : Fm g i k Y) {s' H M x y dx dy} {pins : List (Addr × Obj)} {sh : Shared} {v u : Value} {Q : Value → Shared → Prop} (I : Inv Y.X pins s' H sh) (rx : RelV x v) (ry : RelV y u)
    (hx : Fz Y.X.K H M x dx) (hy : Fz Y.X.K H M y dy) (ok : (bothS dx dy || (dx.canLay0 && dy.canLay0 && decide (min dx.depth dy.depth ≤ 64))) = true) (q : Q (.bool (!PyData.eqv dx dy)) sh) : wpAny (model Y.X.prog Y.X.w) Y.X.A (compareOp .NotEq v u) Q Y.X.xe sh := by
  obtain ⟨as, r1, _⟩ := Fz.reads I F.sy dx x v hx rx
  obtain ⟨bs, r2, _⟩ := Fz.reads I F.sy dy y u hy ry
  have hu := F.room.un
  rw [Bool.or_eq_true] at ok
  rcases ok with ok | ok
  · cases dx with
    | str a => cases dy with
      | str b =>
        cases r1
        cases r2
        exact PyProof.Rows.ne_str q
      | _ => cases ok
    | _ => cases ok
  simp only [Bool.and_eq_true, decide_eq_true_eq] at ok
  exact SeqAt.compareNe_reads r1 r2 ok.1.1 ok.1.2 (by omega) q
theorem o_eq {g : Gc} {i : Si} {k : Nat} (F : Fm g i k Y) : Op2 Y (compareOp .Eq) rEqd := by
  intro s H σ M x y a b Q S rx ry q
  unfold rEqd at q
  split at q
  · intro pins sh s' v u I r1 r2
    exact eq_run F I r1 r2 rx ry q.1 ⟨.bl _, H, I, rfl, S.here (wBool _) q.2⟩
  · exact q.elim
def neOk (x y : PyData) : Bool := bothS x y || (x.canLay0 && y.canLay0 && decide (min x.depth y.depth ≤ 64))
def rNed : R2d := fun a b M Q => match a, b with
  | .d x, .d y => neOk x y = true ∧ Q (.d (.bool (!PyData.eqv x y))) M
  | _, _ => False
theorem o_ne {g : Gc} {i : Si} {k : Nat} (F : Fm g i k Y) : Op2 Y (compareOp .NotEq) rNed := by
  intro s H σ M x y a b Q S rx ry q
  unfold rNed at q
  split at q
  · intro pins sh s' v u I r1 r2
    exact ne_run F I r1 r2 rx ry q.1 ⟨.bl _, H, I, rfl, S.here (wBool _) q.2⟩
  · exact q.elim

/-! ### is, is not -/
def isNone : PyData → Bool | .none => true | _ => false
def rIs : R2d := fun a b M Q => match a, b with
  | .d (.bool x), .d (.bool y) => Q (.d (.bool (x == y))) M
  | .d x, .d .none => Q (.d (.bool (isNone x))) M
  | .ref _, .d .none => Q (.d (.bool false)) M
  | .scr _, .d .none => Q (.d (.bool false)) M
  | _, _ => False
def rIsNot : R2d := fun a b M Q => match a, b with
  | .d (.bool x), .d (.bool y) => Q (.d (.bool (!(x == y)))) M
  | .d x, .d .none => Q (.d (.bool (!isNone x))) M
  | .ref _, .d .none => Q (.d (.bool true)) M
  | .scr _, .d .none => Q (.d (.bool true)) M
  | _, _ => False
theorem non_dec {K : PySem.W.Frag} {H : Hp} {M : MH} {v : V} {x : PyData} (h : Fz K H M v x) : decide (v = .non) = isNone x := by
  cases h <;> simp [isNone]
theorem dec_beq {a b : Bool} : decide (a = b) = (a == b) := by cases a <;> cases b <;> rfl
theorem o_is : Op2 Y (compareOp .Is) rIs := by
  intro s H σ M x y a b Q S rx ry q
  unfold rIs at q
  split at q
  · exact semO_of op_isBl ⟨_, _, rx.bool, ry.bool, S.here (wBool _) (by rw [dec_beq]; exact q)⟩
  · refine semO_of op_isN ⟨ry.none, S.here (wBool _) ?_⟩
    rw [non_dec rx]; exact q
  · obtain rfl := (show x = _ from rx)
    exact semO_of op_isN ⟨ry.none, S.here (wBool _) (by simpa using q)⟩
  · obtain ⟨a, xs, rfl, _⟩ := rx
    exact semO_of op_isN ⟨ry.none, S.here (wBool _) (by simpa using q)⟩
  · exact q.elim
theorem o_isNot : Op2 Y (compareOp .IsNot) rIsNot := by
  intro s H σ M x y a b Q S rx ry q
  unfold rIsNot at q
  split at q
  · exact semO_of op_notBl ⟨_, _, rx.bool, ry.bool, S.here (wBool _) (by rw [dec_beq]; exact q)⟩
  · refine semO_of op_notN ⟨ry.none, S.here (wBool _) ?_⟩
    rw [non_dec rx]; exact q
  · obtain rfl := (show x = _ from rx)
    exact semO_of op_notN ⟨ry.none, S.here (wBool _) (by simpa using q)⟩
  · obtain ⟨a, xs, rfl, _⟩ := rx
    exact semO_of op_notN ⟨ry.none, S.here (wBool _) (by simpa using q)⟩
  · exact q.elim

/-! ### in, not in -/
def inOk (x : PyData) (xs : List PyData) : Bool := PyData.canLayAll0 xs && x.canLay0 && decide (min (PyData.depthAll xs) x.depth ≤ 64)
def inD (x : PyData) (xs : List PyData) : Bool := xs.any fun y => PyData.eqv y x
def rInD (neg : Bool) : R2d := fun a b M Q => match a, b with
  | .d (.str x), .d (.str z) => ∃ c, x = ⟨#[c]⟩ ∧ Q (.d (.bool (if neg then !decide (c ∈ z.cps.toList) else decide (c ∈ z.cps.toList)))) M
  | .d x, .d (.tuple xs) => inOk x xs = true ∧ Q (.d (.bool (if neg then !inD x xs else inD x xs))) M
  | .d x, .d (.list xs) => inOk x xs = true ∧ Q (.d (.bool (if neg then !inD x xs else inD x xs))) M
  | .d x, .ref p => ∃ ws, M p = some (.lst ws) ∧ dataQ (fun xs M => inOk x xs = true ∧ Q (.d (.bool (if neg then !inD x xs else inD x xs))) M) ws M
  | _, _ => False
theorem seq_reads {g : Gc} {i : Si} {k : Nat} (F : Fm g i k Y) {s H M} {pins : List (Addr × Obj)} {sh : Shared} (I : Inv Y.X pins s H sh) {p : Addr} {vs : List V} {xs : List PyData} (h : H p = some (.lst vs)) (ha : FzA Y.X.K H M vs xs) :
    ∃ as, Reads sh.heap (.ref p) (.list xs) as := by
  obtain ⟨its, rv, ⟨o, n, ho, hc, _, hd⟩, _⟩ := I.list (SqL.of (K := Y.X.K) h)
  obtain ⟨as, hr, _⟩ := FzA.reads I F.sy xs _ its ha rv
  exact ⟨_, .list ho hc hd hr⟩
theorem o_in {g : Gc} {i : Si} {k : Nat} (F : Fm g i k Y) : Op2 Y (compareOp .In) (rInD false) := by
  intro s H σ M x y a b Q S rx ry q
  have hu := F.room.un
  unfold rInD at q
  split at q
  · obtain ⟨c, rfl, q⟩ := q
    exact semO_of op_in_sign ⟨c, _, rx.str, ry.str, S.here (wBool _) (by simpa using q)⟩
  · intro pins sh s' v u I r1 r2
    obtain ⟨as, h1, _⟩ := Fz.reads I F.sy _ y u ry r2
    obtain ⟨bs, h2, _⟩ := Fz.reads I F.sy _ x v rx r1
    obtain ⟨ok, q⟩ := q
    simp only [inOk, Bool.and_eq_true, decide_eq_true_eq] at ok
    exact SeqAt.in_tuple_reads h1 h2 ok.1.1 ok.1.2 (by omega) ⟨.bl _, H, I, rfl, S.here (w := .d (.bool _)) (wBool _) (by first | exact q | (simp only [if_true, if_false, Bool.false_eq_true] at q; exact q))⟩
  · intro pins sh s' v u I r1 r2
    obtain ⟨as, h1, _⟩ := Fz.reads I F.sy _ y u ry r2
    obtain ⟨bs, h2, _⟩ := Fz.reads I F.sy _ x v rx r1
    obtain ⟨ok, q⟩ := q
    simp only [inOk, Bool.and_eq_true, decide_eq_true_eq] at ok
    exact SeqAt.in_list_reads h1 h2 ok.1.1 ok.1.2 (by omega) ⟨.bl _, H, I, rfl, S.here (w := .d (.bool _)) (wBool _) (by first | exact q | (simp only [if_true, if_false, Bool.false_eq_true] at q; exact q))⟩
  · intro pins sh s' v u I r1 r2
    obtain ⟨ws, hm, q⟩ := q
    obtain ⟨xs, rfl, ok, q⟩ := dataQ_get q
    obtain rfl := (show y = _ from ry)
    cases r2
    obtain ⟨vs, e1, e2⟩ := S.d _ _ hm
    obtain ⟨as, h1⟩ := seq_reads F I e1 (FzA.of_wv e2)
    obtain ⟨bs, h2, _⟩ := Fz.reads I F.sy _ x v rx r1
    simp only [inOk, Bool.and_eq_true, decide_eq_true_eq] at ok
    exact SeqAt.in_list_reads h1 h2 ok.1.1 ok.1.2 (by omega) ⟨.bl _, H, I, rfl, S.here (w := .d (.bool _)) (wBool _) (by first | exact q | (simp only [if_true, if_false, Bool.false_eq_true] at q; exact q))⟩
  · exact q.elim
theorem o_notIn {g : Gc} {i : Si} {k : Nat} (F : Fm g i k Y) : Op2 Y (compareOp .NotIn) (rInD true) := by
  intro s H σ M x y a b Q S rx ry q
  have hu := F.room.un
  unfold rInD at q
  split at q
  · obtain ⟨c, rfl, q⟩ := q
    exact semO_of op_notIn_sign ⟨c, _, rx.str, ry.str, S.here (wBool _) (by simpa using q)⟩
  · intro pins sh s' v u I r1 r2
    obtain ⟨as, h1, _⟩ := Fz.reads I F.sy _ y u ry r2
    obtain ⟨bs, h2, _⟩ := Fz.reads I F.sy _ x v rx r1
    obtain ⟨ok, q⟩ := q
    simp only [inOk, Bool.and_eq_true, decide_eq_true_eq] at ok
    exact SeqAt.notIn_tuple_reads h1 h2 ok.1.1 ok.1.2 (by omega) ⟨.bl _, H, I, rfl, S.here (w := .d (.bool _)) (wBool _) (by first | exact q | (simp only [if_true, if_false, Bool.false_eq_true] at q; exact q))⟩
  · intro pins sh s' v u I r1 r2
    obtain ⟨as, h1, _⟩ := Fz.reads I F.sy _ y u ry r2
    obtain ⟨bs, h2, _⟩ := Fz.reads I F.sy _ x v rx r1
    obtain ⟨ok, q⟩ := q
    simp only [inOk, Bool.and_eq_true, decide_eq_true_eq] at ok
    exact SeqAt.notIn_list_reads h1 h2 ok.1.1 ok.1.2 (by omega) ⟨.bl _, H, I, rfl, S.here (w := .d (.bool _)) (wBool _) (by first | exact q | (simp only [if_true, if_false, Bool.false_eq_true] at q; exact q))⟩
  · intro pins sh s' v u I r1 r2
    obtain ⟨ws, hm, q⟩ := q
    obtain ⟨xs, rfl, ok, q⟩ := dataQ_get q
    obtain rfl := (show y = _ from ry)
    cases r2
    obtain ⟨vs, e1, e2⟩ := S.d _ _ hm
    obtain ⟨as, h1⟩ := seq_reads F I e1 (FzA.of_wv e2)
    obtain ⟨bs, h2, _⟩ := Fz.reads I F.sy _ x v rx r1
    simp only [inOk, Bool.and_eq_true, decide_eq_true_eq] at ok
    exact SeqAt.notIn_list_reads h1 h2 ok.1.1 ok.1.2 (by omega) ⟨.bl _, H, I, rfl, S.here (w := .d (.bool _)) (wBool _) (by first | exact q | (simp only [if_true, if_false, Bool.false_eq_true] at q; exact q))⟩
  · exact q.elim
end
end Dl
set_option Elab.async false
set_option linter.all false
set_option maxRecDepth 100000
namespace Dl
open PySem PySem.Spec PyProof.Rows L2

section
variable {g : Gc} {i : Si} {k : Nat} {Y : Dx}
/-! ### calls of built-ins -/
def tCal (r : RCd) (t : TAd) : TEd := fun σ M Q => t σ M fun ws M1 => r ws M1 Q
theorem call_run {f : Value} {r : RCd} {es : List Expr} {t : TAd} (hc : OpC Y f r) (ha : QA Y es t) {s H σ M Q} (S : Std Y s H σ M) (h : tCal r t σ M Q) : tCB (semC Y.X f) (semA Y.X es) s H (up Y H M Q) :=
  ha.then_ S h fun _ _ _ _ e d rv q => semC_mono (hc _ _ _ _ _ _ _ (S.go e d) rv q) fun _ _ z => z.trans e
theorem q_callB (F : Fm g i k Y) (j : Nat) {x : Str} {id : String} {r : RCd} {e : Expr} {es : List Expr} {t : TAd} {p pos : Pos} (hc : OpC Y (.builtin id) r) (hm : g.mg x = none) (hv : bootBuiltins x = some (.builtin id)) (ha : QA Y (e :: es) t) (hj : i.gls[j]? = some x := by rfl)
    (he : starEach (e :: es) Y.X.env = (false, eval e Y.X.env) :: starEach es Y.X.env := by rfl) (hpl : (backTo pos (starEach es Y.X.env)).any (·.1) = false := by rfl) : QE Y (.Call (.Name x p) (e :: es) [] pos) (tCal r t) := by
  obtain ⟨h1, h2, h3⟩ := F.glo j x hj
  exact ⟨fun s H σ M Q S h => semE_of (pe_callB call_sem h1 (by rw [F.hmg]; exact hm) hv pa_sem h3 h2 he hpl) (call_run hc ha S h)⟩
theorem q_callT (F : Fm g i k Y) (j : Nat) {x : Str} {T : String} {r : RCd} {e : Expr} {es : List Expr} {t : TAd} {p pos : Pos} (hc : OpC Y (.type T) r) (hm : g.mg x = none) (hv : bootBuiltins x = some (.type T)) (ha : QA Y (e :: es) t) (hj : i.gls[j]? = some x := by rfl)
    (he : starEach (e :: es) Y.X.env = (false, eval e Y.X.env) :: starEach es Y.X.env := by rfl) (hpl : (backTo pos (starEach es Y.X.env)).any (·.1) = false := by rfl) : QE Y (.Call (.Name x p) (e :: es) [] pos) (tCal r t) := by
  obtain ⟨h1, h2, h3⟩ := F.glo j x hj
  exact ⟨fun s H σ M Q S h => semE_of (pe_callTy call_sem h1 (by rw [F.hmg]; exact hm) hv pa_sem h3 h2 he hpl) (call_run hc ha S h)⟩
section
variable {K : PySem.W.Frag} {H : Hp} {M : MH}
theorem WvA.one {xs : List V} {w : W} (h : WvA K H M xs [w]) : ∃ v, xs = [v] ∧ Wv K H M v w := by
  cases h with
  | cons a b => cases b; exact ⟨_, rfl, a⟩
theorem WvA.two {xs : List V} {w u : W} (h : WvA K H M xs [w, u]) : ∃ v y, xs = [v, y] ∧ Wv K H M v w ∧ Wv K H M y u := by
  cases h with
  | cons a b =>
    cases b with
    | cons b c => cases c; exact ⟨_, _, rfl, a, b⟩
end
def rLen : RCd := fun ws M Q => match ws with
  | [.d (.str z)] => small z.length ∧ Q (.d (.int z.length)) M
  | [.d (.tuple xs)] => Q (.d (.int xs.length)) M
  | [.d (.list xs)] => Q (.d (.int xs.length)) M
  | [.scr xs] => Q (.d (.int xs.length)) M
  | [.ref p] => ∃ ws, M p = some (.lst ws) ∧ Q (.d (.int ws.length)) M
  | _ => False
theorem c_len : OpC Y (.builtin "len") rLen := by
  intro s H σ M xs ws Q S rx q
  unfold rLen at q
  split at q
  · obtain ⟨v, rfl, r⟩ := rx.one
    exact semC_of call_len_str ⟨_, by rw [r.str], q.1, S.here (wInt _) q.2⟩
  · obtain ⟨v, rfl, r⟩ := rx.one
    obtain ⟨p, ys, rfl, h1, h2⟩ := r.tup
    exact semC_of call_len_seq ⟨p, ys, rfl, .inr h1.sq, S.here (wInt _) (by rw [h2.length]; exact q)⟩
  · obtain ⟨v, rfl, r⟩ := rx.one
    obtain ⟨p, ys, rfl, h1, h2⟩ := r.lst
    exact semC_of call_len_seq ⟨p, ys, rfl, .inl h1.sq, S.here (wInt _) (by rw [h2.length]; exact q)⟩
  · obtain ⟨v, rfl, r⟩ := rx.one
    obtain ⟨p, ys, rfl, h1, h2⟩ := r
    exact semC_of call_len_seq ⟨p, ys, rfl, .inl h1.sq, S.here (wInt _) (by rw [h2.length]; exact q)⟩
  · obtain ⟨v, rfl, r⟩ := rx.one
    obtain ⟨ws', hm, q⟩ := q
    obtain rfl := (show v = _ from r)
    obtain ⟨ys, h1, h2⟩ := S.d _ _ hm
    exact semC_of call_len_seq ⟨_, ys, rfl, .inl (SqL.of h1), S.here (wInt _) (by rw [Paired.length h2]; exact q)⟩
  · exact q.elim
def rAbs : RCd := fun ws M Q => match ws with
  | [.d (.int n)] => Q (.d (.int (n.natAbs : Int))) M
  | _ => False
theorem c_abs : OpC Y (.builtin "abs") rAbs := by
  intro s H σ M xs ws Q S rx q
  unfold rAbs at q
  split at q
  · obtain ⟨v, rfl, r⟩ := rx.one
    rename_i n
    refine semC_of call_abs ⟨n, by rw [r.int], S.here (wInt _) ?_⟩
    rw [show (if n < 0 then -n else n) = (n.natAbs : Int) by split <;> omega]
    exact q
  · exact q.elim
def rMax : RCd := fun ws M Q => match ws with
  | [.d (.int n), .d (.int m)] => Q (.d (.int (max n m))) M
  | _ => False
def rMin : RCd := fun ws M Q => match ws with
  | [.d (.int n), .d (.int m)] => Q (.d (.int (min n m))) M
  | _ => False
theorem c_max (F : Fm g i k Y) (hc : i.hot = false := by rfl) : OpC Y (.builtin "max") rMax := by
  intro s H σ M xs ws Q S rx q
  unfold rMax at q
  split at q
  · obtain ⟨v, u, rfl, r1, r2⟩ := rx.two
    rename_i n m
    refine semC_of (call_max2 (F.calm hc)) ⟨n, m, by rw [r1.int, r2.int], S.here (wInt _) ?_⟩
    rw [show (if m > n then m else n) = max n m by split <;> omega]
    exact q
  · exact q.elim
theorem c_min (F : Fm g i k Y) (hc : i.hot = false := by rfl) : OpC Y (.builtin "min") rMin := by
  intro s H σ M xs ws Q S rx q
  unfold rMin at q
  split at q
  · obtain ⟨v, u, rfl, r1, r2⟩ := rx.two
    rename_i n m
    refine semC_of (call_min2 (F.calm hc)) ⟨n, m, by rw [r1.int, r2.int], S.here (wInt _) ?_⟩
    rw [show (if m < n then m else n) = min n m by split <;> omega]
    exact q
  · exact q.elim
def rToInt : RCd := fun ws M Q => match ws with
  | [.d (.int n)] => Q (.d (.int n)) M
  | [.d (.bool b)] => Q (.d (.int (if b then 1 else 0))) M
  | _ => False
theorem c_int : OpC Y (.type "int") rToInt := by
  intro s H σ M xs ws Q S rx q
  unfold rToInt at q
  split at q
  · obtain ⟨v, rfl, r⟩ := rx.one
    exact semC_of call_int1 (.inl ⟨_, by rw [r.int], S.here (wInt _) q⟩)
  · obtain ⟨v, rfl, r⟩ := rx.one
    exact semC_of call_int1 (.inr ⟨_, by rw [r.bool], S.here (wInt _) q⟩)
  · exact q.elim
def rStrI : RCd := fun ws M Q => match ws with
  | [.d (.int n)] => n.natAbs.log2 < 1920 ∧ Q (.d (.str (toString n))) M
  | _ => False
theorem c_str : OpC Y (.type "str") rStrI := by
  intro s H σ M xs ws Q S rx q
  unfold rStrI at q
  split at q
  · obtain ⟨v, rfl, r⟩ := rx.one
    exact semC_of call_str_int ⟨_, by rw [r.int], q.1, S.here (wStr _) q.2⟩
  · exact q.elim
def showOk (x : PyData) : Prop := x.showable = true ∧ x.shown.length ≤ sizeLine ∧ x.depth ≤ 100
def rRepr : RCd := fun ws M Q => match ws with
  | [.d x] => showOk x ∧ Q (.d (.str x.shown)) M
  | _ => False
theorem c_repr (F : Fm g i k Y) : OpC Y (.builtin "repr") rRepr := by
  intro s H σ M xs ws Q S rx q
  have hu := F.room.un
  unfold rRepr at q
  split at q
  · rename_i x
    obtain ⟨v, rfl, r⟩ := rx.one
    obtain ⟨⟨h1, h2, h3⟩, q⟩ := q
    intro pins sh s' us I ru
    obtain ⟨u, rfl, ru1⟩ := vals1 ru
    clear ru
    have r' : Fz Y.X.K H M v x := r
    obtain ⟨as, rd, hs⟩ := Fz.reads I F.sy x v u r' ru1
    have fin : ∀ h' tk, (∀ b o, sh.heap.get? b = some o → h'.get? b = some o) → ∀ t, EP Y.X pins s' (up Y H M Q) (.str x.shown t) { sh with heap := h', toks := tk } := fun h' tk hk t =>
      ⟨.str x.shown, H, I.kept hk, ⟨t, rfl⟩, S.here (wStr _) q⟩
    cases x with
    | none =>
      cases rd
      simp only [PyData.shown] at fin
      exact PySem.P.repr_of_none (fin sh.heap _ (fun _ _ e => e) _)
    | bool b =>
      cases rd
      simp only [PyData.shown] at fin
      exact PySem.P.repr_of_bool (fin sh.heap _ (fun _ _ e => e) _)
    | int n =>
      cases rd
      simp only [PyData.shown] at fin
      exact PySem.P.repr_of_int (by simpa [PyData.showable] using h1) (fin sh.heap _ (fun _ _ e => e) _)
    | str z =>
      cases rd
      simp only [PyData.shown] at fin h2
      exact PySem.P.repr_of_str (fin sh.heap _ (fun _ _ e => e) _) h2
    | list ds =>
      cases r'
      cases ru1
      exact repr_of_reads' rd h1 (fun _ => hs) F.gd (by omega) (fun _ _ e => e) (fun h' t tk hk => fin h' tk hk t) h2
    | tuple ds =>
      cases r'
      cases ru1
      exact repr_of_reads' rd h1 (fun _ => hs) F.gd (by omega) (fun _ _ e => e) (fun h' t tk hk => fin h' tk hk t) h2
    | dict ds =>
      cases r' <;> cases ru1 <;> exact repr_of_reads' rd h1 (fun _ => hs) F.gd (by omega) (fun _ _ e => e) (fun h' t tk hk => fin h' tk hk t) h2
  · exact q.elim
/-- tuple(x) -/
def rTup : RCd := fun ws M Q => match ws with
  | [.d (.tuple xs)] => Q (.d (.tuple xs)) M
  | [.d (.list xs)] => Q (.d (.tuple xs)) M
  | [.ref p] => ∃ ws, M p = some (.lst ws) ∧ dataQ (fun xs M => Q (.d (.tuple xs)) M) ws M
  | _ => False
theorem c_tup : OpC Y (.type "tuple") rTup := by
  intro s H σ M xs ws Q S rx q
  unfold rTup at q
  split at q
  · obtain ⟨v, rfl, r⟩ := rx.one
    obtain ⟨p, ys, rfl, h1, h2⟩ := r.tup
    exact semC_of call_tuple_of ⟨p, ys, rfl, .inr ⟨h1.sq, S.here r q⟩⟩
  · obtain ⟨v, rfl, r⟩ := rx.one
    obtain ⟨p, ys, rfl, h1, h2⟩ := r.lst
    exact semC_of call_tuple_of ⟨p, ys, rfl, .inl ⟨h1.sq, fun l n => up_tup S n h2 q⟩⟩
  · obtain ⟨v, rfl, r⟩ := rx.one
    obtain ⟨ws', hm, q⟩ := q
    obtain ⟨ds, rfl, q0⟩ := dataQ_get q
    clear q
    have q := q0
    obtain rfl := (show v = _ from r)
    obtain ⟨ys, h1, h2⟩ := S.d _ _ hm
    exact semC_of call_tuple_of ⟨_, ys, rfl, .inl ⟨SqL.of h1, fun l n => up_tup S n (FzA.of_wv h2) q⟩⟩
  · exact q.elim
/-- list(x) -/
def rLst : RCd := fun ws M Q => match ws with
  | [.d (.tuple xs)] => Q (.d (.list xs)) M
  | [.d (.list xs)] => Q (.d (.list xs)) M
  | [.ref p] => ∃ ws, M p = some (.lst ws) ∧ dataQ (fun xs M => Q (.d (.list xs)) M) ws M
  | _ => False
theorem c_lst : OpC Y (.type "list") rLst := by
  intro s H σ M xs ws Q S rx q
  unfold rLst at q
  split at q
  · obtain ⟨v, rfl, r⟩ := rx.one
    obtain ⟨p, ys, rfl, h1, h2⟩ := r.tup
    exact semC_of call_list_of ⟨p, ys, rfl, .inr h1.sq, fun l n => up_lst S n h2 q⟩
  · obtain ⟨v, rfl, r⟩ := rx.one
    obtain ⟨p, ys, rfl, h1, h2⟩ := r.lst
    exact semC_of call_list_of ⟨p, ys, rfl, .inl h1.sq, fun l n => up_lst S n h2 q⟩
  · obtain ⟨v, rfl, r⟩ := rx.one
    obtain ⟨ws', hm, q⟩ := q
    obtain ⟨ds, rfl, q0⟩ := dataQ_get q
    clear q
    have q := q0
    obtain rfl := (show v = _ from r)
    obtain ⟨ys, h1, h2⟩ := S.d _ _ hm
    exact semC_of call_list_of ⟨_, ys, rfl, .inl (SqL.of h1), fun l n => up_lst S n (FzA.of_wv h2) q⟩
  · exact q.elim
/-- all(list of truths), any -/
def bools : List PyData → Option (List Bool)
  | [] => some []
  | .bool b :: r => (bools r).map (b :: ·)
  | _ => none
theorem bools_eq : ∀ {ds : List PyData} {bs : List Bool}, bools ds = some bs → ds = bs.map PyData.bool
  | [], _, h => by cases h; rfl
  | d :: r, bs, h => by
    cases d <;> try (simp [bools] at h; done)
    rename_i b
    unfold bools at h
    cases e : bools r with
    | none => rw [e] at h; cases h
    | some es =>
      rw [e] at h
      cases h
      rw [bools_eq e]
      rfl
theorem bools_map : ∀ bs : List Bool, bools (bs.map PyData.bool) = some bs
  | [] => rfl
  | b :: bs => by show (bools (bs.map PyData.bool)).map (b :: ·) = _; rw [bools_map bs]; rfl
theorem FzA.bls {K : PySem.W.Frag} {H : Hp} {M : MH} : ∀ {bs : List Bool} {xs : List V}, FzA K H M xs (bs.map PyData.bool) → xs = bs.map V.bl
  | [], _, h => by cases h; rfl
  | b :: bs, _, h => by
    cases h with
    | cons h1 h2 => cases h1; rw [FzA.bls h2]; rfl
def rAll : RCd := fun ws M Q => match ws with
  | [.d (.list xs)] => match bools xs with | some bs => Q (.d (.bool (bs.all id))) M | none => False
  | _ => False
def rAny : RCd := fun ws M Q => match ws with
  | [.d (.list xs)] => match bools xs with | some bs => Q (.d (.bool (bs.any id))) M | none => False
  | _ => False
theorem c_all (F : Fm g i k Y) (hc : i.hot = false := by rfl) : OpC Y (.builtin "all") rAll := by
  intro s H σ M xs ws Q S rx q
  unfold rAll at q
  split at q
  · split at q
    · rename_i bs e
      obtain rfl := bools_eq e
      obtain ⟨v, rfl, r⟩ := rx.one
      obtain ⟨p, ys, rfl, h1, h2⟩ := r.lst
      obtain rfl := h2.bls
      exact semC_of (cr_all (F.calm hc)) ⟨p, bs, rfl, h1.sq, S.here (wBool _) q⟩
    · exact q.elim
  · exact q.elim
theorem c_any (F : Fm g i k Y) (hc : i.hot = false := by rfl) : OpC Y (.builtin "any") rAny := by
  intro s H σ M xs ws Q S rx q
  unfold rAny at q
  split at q
  · split at q
    · rename_i bs e
      obtain rfl := bools_eq e
      obtain ⟨v, rfl, r⟩ := rx.one
      obtain ⟨p, ys, rfl, h1, h2⟩ := r.lst
      obtain rfl := h2.bls
      exact semC_of (cr_any (F.calm hc)) ⟨p, bs, rfl, h1.sq, S.here (wBool _) q⟩
    · exact q.elim
  · exact q.elim
def intsD : List PyData → Option (List Int)
  | [] => some []
  | .int b :: r => (intsD r).map (b :: ·)
  | _ => none
theorem intsD_eq : ∀ {ds : List PyData} {bs : List Int}, intsD ds = some bs → ds = bs.map PyData.int
  | [], _, h => by cases h; rfl
  | d :: r, bs, h => by
    cases d <;> try (simp [intsD] at h; done)
    rename_i b
    unfold intsD at h
    cases e : intsD r with
    | none => rw [e] at h; cases h
    | some es =>
      rw [e] at h
      cases h
      rw [intsD_eq e]
      rfl
theorem intsD_map : ∀ bs : List Int, intsD (bs.map PyData.int) = some bs
  | [] => rfl
  | b :: bs => by show (intsD (bs.map PyData.int)).map (b :: ·) = _; rw [intsD_map bs]; rfl
theorem FzA.intsV {K : PySem.W.Frag} {H : Hp} {M : MH} : ∀ {bs : List Int} {xs : List V}, FzA K H M xs (bs.map PyData.int) → xs = bs.map V.int
  | [], _, h => by cases h; rfl
  | b :: bs, _, h => by
    cases h with
    | cons h1 h2 => cases h1; rw [FzA.intsV h2]; rfl
def rSum : RCd := fun ws M Q => match ws with
  | [.d (.list xs)] => match intsD xs with | some ns => Q (.d (.int ns.sum)) M | none => False
  | _ => False
theorem c_sum (F : Fm g i k Y) (hc : i.hot = false := by rfl) : OpC Y (.builtin "sum") rSum := by
  intro s H σ M xs ws Q S rx q
  unfold rSum at q
  split at q
  · split at q
    · rename_i bs e
      obtain rfl := intsD_eq e
      obtain ⟨v, rfl, r⟩ := rx.one
      obtain ⟨p, ys, rfl, h1, h2⟩ := r.lst
      obtain rfl := h2.intsV
      exact semC_of (cr_sum (F.calm hc)) ⟨p, bs, rfl, h1.sq, S.here (wInt _) q⟩
    · exact q.elim
  · exact q.elim

/-! ### isinstance of a built-in class -/
def tyOf : PyData → String
  | .none => "NoneType" | .bool _ => "bool" | .int _ => "int" | .str _ => "str" | .list _ => "list" | .tuple _ => "tuple" | .dict _ => "dict"
def isInt : PyData → Bool | .int _ => true | .bool _ => true | _ => false
def isBool : PyData → Bool | .bool _ => true | _ => false
def isStr : PyData → Bool | .str _ => true | _ => false
def isList : PyData → Bool | .list _ => true | _ => false
def isDict : PyData → Bool | .dict _ => true | _ => false
def IsK (T : String) (f : PyData → Bool) : Prop := ∀ x, kitB (tyOf x) T = some (f x)
theorem kb_NoneType_int : kitB "NoneType" "int" = some false := by decide +kernel
theorem kb_bool_int : kitB "bool" "int" = some true := by decide +kernel
theorem kb_int_int : kitB "int" "int" = some true := by decide +kernel
theorem kb_str_int : kitB "str" "int" = some false := by decide +kernel
theorem kb_list_int : kitB "list" "int" = some false := by decide +kernel
theorem kb_tuple_int : kitB "tuple" "int" = some false := by decide +kernel
theorem kb_dict_int : kitB "dict" "int" = some false := by decide +kernel
theorem isk_int : IsK "int" isInt := fun x => match x with | .none => kb_NoneType_int | .bool _ => kb_bool_int | .int _ => kb_int_int | .str _ => kb_str_int | .list _ => kb_list_int | .tuple _ => kb_tuple_int | .dict _ => kb_dict_int
theorem kb_NoneType_bool : kitB "NoneType" "bool" = some false := by decide +kernel
theorem kb_bool_bool : kitB "bool" "bool" = some true := by decide +kernel
theorem kb_int_bool : kitB "int" "bool" = some false := by decide +kernel
theorem kb_str_bool : kitB "str" "bool" = some false := by decide +kernel
theorem kb_list_bool : kitB "list" "bool" = some false := by decide +kernel
theorem kb_tuple_bool : kitB "tuple" "bool" = some false := by decide +kernel
theorem kb_dict_bool : kitB "dict" "bool" = some false := by decide +kernel
theorem isk_bool : IsK "bool" isBool := fun x => match x with | .none => kb_NoneType_bool | .bool _ => kb_bool_bool | .int _ => kb_int_bool | .str _ => kb_str_bool | .list _ => kb_list_bool | .tuple _ => kb_tuple_bool | .dict _ => kb_dict_bool
theorem kb_NoneType_str : kitB "NoneType" "str" = some false := by decide +kernel
theorem kb_bool_str : kitB "bool" "str" = some false := by decide +kernel
theorem kb_int_str : kitB "int" "str" = some false := by decide +kernel
theorem kb_str_str : kitB "str" "str" = some true := by decide +kernel
theorem kb_list_str : kitB "list" "str" = some false := by decide +kernel
theorem kb_tuple_str : kitB "tuple" "str" = some false := by decide +kernel
theorem kb_dict_str : kitB "dict" "str" = some false := by decide +kernel
theorem isk_str : IsK "str" isStr := fun x => match x with | .none => kb_NoneType_str | .bool _ => kb_bool_str | .int _ => kb_int_str | .str _ => kb_str_str | .list _ => kb_list_str | .tuple _ => kb_tuple_str | .dict _ => kb_dict_str
theorem kb_NoneType_tuple : kitB "NoneType" "tuple" = some false := by decide +kernel
theorem kb_bool_tuple : kitB "bool" "tuple" = some false := by decide +kernel
theorem kb_int_tuple : kitB "int" "tuple" = some false := by decide +kernel
theorem kb_str_tuple : kitB "str" "tuple" = some false := by decide +kernel
theorem kb_list_tuple : kitB "list" "tuple" = some false := by decide +kernel
theorem kb_tuple_tuple : kitB "tuple" "tuple" = some true := by decide +kernel
theorem kb_dict_tuple : kitB "dict" "tuple" = some false := by decide +kernel
theorem isk_tuple : IsK "tuple" isTup := fun x => match x with | .none => kb_NoneType_tuple | .bool _ => kb_bool_tuple | .int _ => kb_int_tuple | .str _ => kb_str_tuple | .list _ => kb_list_tuple | .tuple _ => kb_tuple_tuple | .dict _ => kb_dict_tuple
theorem kb_NoneType_list : kitB "NoneType" "list" = some false := by decide +kernel
theorem kb_bool_list : kitB "bool" "list" = some false := by decide +kernel
theorem kb_int_list : kitB "int" "list" = some false := by decide +kernel
theorem kb_str_list : kitB "str" "list" = some false := by decide +kernel
theorem kb_list_list : kitB "list" "list" = some true := by decide +kernel
theorem kb_tuple_list : kitB "tuple" "list" = some false := by decide +kernel
theorem kb_dict_list : kitB "dict" "list" = some false := by decide +kernel
theorem isk_list : IsK "list" isList := fun x => match x with | .none => kb_NoneType_list | .bool _ => kb_bool_list | .int _ => kb_int_list | .str _ => kb_str_list | .list _ => kb_list_list | .tuple _ => kb_tuple_list | .dict _ => kb_dict_list
theorem kb_NoneType_dict : kitB "NoneType" "dict" = some false := by decide +kernel
theorem kb_bool_dict : kitB "bool" "dict" = some false := by decide +kernel
theorem kb_int_dict : kitB "int" "dict" = some false := by decide +kernel
theorem kb_str_dict : kitB "str" "dict" = some false := by decide +kernel
theorem kb_list_dict : kitB "list" "dict" = some false := by decide +kernel
theorem kb_tuple_dict : kitB "tuple" "dict" = some false := by decide +kernel
theorem kb_dict_dict : kitB "dict" "dict" = some true := by decide +kernel
theorem isk_dict : IsK "dict" isDict := fun x => match x with | .none => kb_NoneType_dict | .bool _ => kb_bool_dict | .int _ => kb_int_dict | .str _ => kb_str_dict | .list _ => kb_list_dict | .tuple _ => kb_tuple_dict | .dict _ => kb_dict_dict
theorem Fz.tyX {K : PySem.W.Frag} {H : Hp} {M : MH} {v : V} {x : PyData} (h : Fz K H M v x) : TyX K H v (.type (tyOf x)) := by
  cases h with
  | non => exact .base .non
  | bl b => exact .base (.bl b)
  | int n => exact .base (.int n)
  | str z => exact .base (.str z)
  | lst h1 h2 => exact .base (.lst h1.1)
  | tup h1 h2 =>
    rcases h1 with ⟨h | ⟨o, h⟩, _⟩ | h
    · exact .base (.tup h)
    · exact .fTuple h
    · rcases h with h | ⟨o, its, n, hk, hc, _⟩
      · exact (no_rd h).elim
      · exact .kTuple hk hc
  | dK h1 h2 h3 => exact .base (.dK h1)
  | dT h1 h2 h3 => exact .base (.dT h1)
def tIsi (f : PyData → Bool) (t : TEd) : TEd := fun σ M Q => t σ M fun w M1 => match w with
  | .d x => Q (.d (.bool (f x))) M1
  | .ref p => ∃ ws, M1 p = some (.lst ws) ∧ Q (.d (.bool (f (.list [])))) M1
  | .scr _ => False
theorem q_isi (F : Fm g i k Y) (j jt : Nat) {T : Str} {n : String} {f : PyData → Bool} {e : Expr} {t : TEd} {p p2 pos : Pos} (hf : IsK n f) (hm : g.mg "isinstance" = none) (hmT : g.mg T = none) (hvT : bootBuiltins T = some (.type n)) (he : QE Y e t)
    (hj : i.gls[j]? = some "isinstance" := by rfl) (hjt : i.gls[jt]? = some T := by rfl)
    (hse : starEach [e, .Name T p2] Y.X.env = (false, eval e Y.X.env) :: starEach [.Name T p2] Y.X.env := by rfl) (hpl : (backTo pos (starEach [.Name T p2] Y.X.env)).any (·.1) = false := by rfl) : QE Y (.Call (.Name "isinstance" p) [e, .Name T p2] [] pos) (tIsi f t) := by
  obtain ⟨h1, h2, h3⟩ := F.glo j _ hj
  obtain ⟨k1, k2, k3⟩ := F.glo jt _ hjt
  refine ⟨fun s H σ M Q S h => ?_⟩
  refine semE_of (pe_callB call_isi h1 (by rw [F.hmg]; exact hm) boot_isinstance (pa_cons (pe_sem (e := e)) (pa_cons (pe_bltn (v := .ty n) (u := .type n) k1 (by rw [F.hmg]; exact hmT) hvT rfl k3 k2) pa_nil) hse) h3 h2 hse hpl) (he.then_ S h fun v H1 w M1 e d r q => ?_)
  cases w with
  | d x => exact ⟨v, .ty n, .type (tyOf x), .type n, f x, rfl, .ty n, Fz.tyX r, kit_ty (hf x), ((S.go e d).here (wBool _) q).trans e⟩
  | ref p =>
    obtain ⟨ws, hm, q⟩ := q
    obtain rfl := (show v = _ from r)
    obtain ⟨ys, hy, _⟩ := d _ _ hm
    exact ⟨.ref p, .ty n, .type "list", .type n, f (.list []), rfl, .ty n, .base (.lst hy), kit_ty (hf (.list [])), ((S.go e d).here (wBool _) q).trans e⟩
  | scr xs => exact q.elim
end
end Dl
set_option Elab.async false
set_option linter.all false
set_option maxRecDepth 100000
namespace Dl
open PySem PySem.Spec PyProof.Rows L2

section
variable {g : Gc} {i : Si} {k : Nat} {Y : Dx}
/-! ### an item, a slice -/
def rIxd : R2d := fun a b M Q => match a, b with
  | .d (.tuple ds), .d (.int n) => ∃ d, atI ds n = some d ∧ Q (.d d) M
  | .d (.list ds), .d (.int n) => ∃ d, atI ds n = some d ∧ Q (.d d) M
  | .scr ds, .d (.int n) => ∃ d, atI ds n = some d ∧ Q (.d d) M
  | .d (.str z), .d (.int n) => small z.length ∧ ∃ c, atI z.cps.toList n = some c ∧ Q (.d (.str ⟨#[c]⟩)) M
  | .ref p, .d (.int n) => ∃ ws, M p = some (.lst ws) ∧ ∃ w, atI ws n = some w ∧ Q w M
  | _, _ => False
theorem atI_paired {α β : Type} {R : α → β → Prop} {xs : List α} {ys : List β} (h : Paired R xs ys) {n : Int} {b : β} (e : atI ys n = some b) : ∃ a, atI xs n = some a ∧ R a b := by
  have hl : xs.length = ys.length := Paired.length h
  unfold atI at e ⊢
  rw [hl]
  cases hx : ixN ys.length n with
  | none => rw [hx] at e; cases e
  | some j =>
    rw [hx] at e
    have e' : ys[j]? = some b := e
    have : ∀ {xs : List α} {ys : List β} {j : Nat}, Paired R xs ys → ys[j]? = some b → ∃ a, xs[j]? = some a ∧ R a b := by
      intro xs ys j h
      induction h generalizing j with
      | nil => intro q; simp at q
      | cons r t ih =>
        intro q
        cases j with
        | zero => simp at q; subst q; exact ⟨_, rfl, r⟩
        | succ j => obtain ⟨a, z1, z2⟩ := ih (j := j) (by simpa using q); exact ⟨a, by simpa using z1, z2⟩
    exact this h e'
theorem FzA.at {K : PySem.W.Frag} {H : Hp} {M : MH} {xs : List V} {ds : List PyData} (h : FzA K H M xs ds) {n : Int} {d : PyData} (e : atI ds n = some d) : ∃ v, atI xs n = some v ∧ Fz K H M v d := by
  have e' : atI (ds.map W.d) n = some (.d d) := by
    unfold atI at e ⊢
    rw [List.length_map]
    cases hx : ixN ds.length n with
    | none => rw [hx] at e; cases e
    | some j =>
      rw [hx] at e
      have q : ds[j]? = some d := e
      show (ds.map W.d)[j]? = _
      rw [List.getElem?_map, q]
      rfl
  exact atI_paired h.wv e'
theorem o_ix : ∀ (s : L2.St) (H : Hp) (σ : SD) (M : MH) (x y : V) (a b : W) (Q : W → MH → Prop), Std Y s H σ M → Wv Y.X.K H M x a → Wv Y.X.K H M y b → rIxd a b M Q → rIx Y.X.K x y H (up Y H M Q) := by
  intro s H σ M x y a b Q S rx ry q
  unfold rIxd at q
  split at q
  · obtain ⟨p, xs, rfl, h1, h2⟩ := rx.tup
    obtain ⟨d, e, q⟩ := q
    obtain ⟨v, e1, e2⟩ := h2.at e
    exact .inr (.inl ⟨p, xs, _, v, rfl, ry.int, h1.sq, e1, S.here (w := .d d) e2 q⟩)
  · obtain ⟨p, xs, rfl, h1, h2⟩ := rx.lst
    obtain ⟨d, e, q⟩ := q
    obtain ⟨v, e1, e2⟩ := h2.at e
    exact .inl ⟨p, xs, _, v, rfl, ry.int, h1.sq, e1, S.here (w := .d d) e2 q⟩
  · obtain ⟨p, xs, rfl, h1, h2⟩ := rx
    obtain ⟨d, e, q⟩ := q
    obtain ⟨v, e1, e2⟩ := h2.at e
    exact .inl ⟨p, xs, _, v, rfl, ry.int, h1.sq, e1, S.here (w := .d d) e2 q⟩
  · obtain ⟨hz, c, e, q⟩ := q
    exact .inr (.inr ⟨_, _, c, rx.str, ry.int, hz, e, S.here (wStr _) q⟩)
  · obtain ⟨ws, hm, w, e, q⟩ := q
    obtain rfl := (show x = _ from rx)
    obtain ⟨xs, h1, h2⟩ := S.d _ _ hm
    obtain ⟨v, e1, e2⟩ := atI_paired h2 e
    exact .inl ⟨_, xs, _, v, rfl, ry.int, SqL.of h1, e1, S.here e2 q⟩
  · exact q.elim
theorem q_ix {a b : Expr} {ta tb : TEd} {pos : Pos} (ha : QE Y a ta) (hb : QE Y b tb) (hs : PlainIx b := by intro _ _; rfl) : QE Y (.Subscript a b pos) (tBin rIxd ta tb) :=
  ⟨fun s H σ M Q S h => semE_of (pe_ix ix_seq pe_sem pe_sem hs) (ha.then_ S h fun _ H1 _ _ e d rv q => hb.then_ (S.go e d) q fun _ _ _ _ e2 d2 rv2 q2 => by
    have z := o_ix _ _ _ _ _ _ _ _ _ ((S.go e d).go e2 d2) (rv.ext e2) rv2 q2
    rcases z with ⟨p, xs, n, v, z1, z2, z3, z4, z5⟩ | ⟨p, xs, n, v, z1, z2, z3, z4, z5⟩ | ⟨p, xs, c, z1, z2, z3, z4, z5⟩
    · exact .inl ⟨p, xs, n, v, z1, z2, z3, z4, z5.trans (e.trans e2)⟩
    · exact .inr (.inl ⟨p, xs, n, v, z1, z2, z3, z4, z5.trans (e.trans e2)⟩)
    · exact .inr (.inr ⟨p, xs, c, z1, z2, z3, z4, z5.trans (e.trans e2)⟩))⟩

/-! ### what is walked -/
def JL (K : PySem.W.Frag) (J : It) (H1 : Hp) (M1 : MH) (ws : List W) (kc : MH → Prop) : Prop := ∀ H2 M2, Ext H1 M1 H2 M2 → Dok K H2 M2 → kc M2 →
  (∀ j w, ws[j]? = some w → J.go j H2 ∧ ∀ x H3, J.yld j H2 x H3 → Ext H2 M2 H3 M2 ∧ Dok K H3 M2 ∧ Wv K H3 M2 x w) ∧ J.stop ws.length H2
def semIt (X : Cx) (tg iter : Expr) : TI := fun s H R => ∀ pins sh, Inv X pins s H sh → wpAny (model X.prog X.w) X.A (eval iter X.env) (fun v s1 => wpAny (model X.prog X.w) X.A (pyIter v) (PIE X pins s tg R) X.xe s1) X.xe sh
theorem pi_sem {X : Cx} {tg iter : Expr} : PI X tg iter (semIt X tg iter) := ⟨fun pins s _ _ _ I h => h pins s I⟩
theorem semIt_of {X : Cx} {tg iter : Expr} {wi : TI} (h : PI X tg iter wi) {s : L2.St} {H : Hp} {R : It → Hp → Prop} (q : wi s H R) : semIt X tg iter s H R := fun pins sh I => h.run pins sh s H R I q
abbrev TId := SD → MH → (List W → (MH → Prop) → MH → Prop) → Prop
def upI (Y : Dx) (H : Hp) (M : MH) (Q : List W → (MH → Prop) → MH → Prop) : It → Hp → Prop := fun J H1 => ∃ ws kc M1, Ext H M H1 M1 ∧ Dok Y.X.K H1 M1 ∧ JL Y.X.K J H1 M1 ws kc ∧ Q ws kc M1
structure QI (Y : Dx) (tg iter : Expr) (ti : TId) : Prop where
  run : ∀ s H σ M Q, Std Y s H σ M → ti σ M Q → semIt Y.X tg iter s H (upI Y H M Q)
def noKc : MH → Prop := fun _ => True
def iTupD (t : TEd) : TId := fun σ M Q => t σ M fun w M1 => match w with | .d (.tuple ds) => Q (ds.map W.d) noKc M1 | _ => False
def iLstD (t : TEd) : TId := fun σ M Q => t σ M fun w M1 => match w with
  | .d (.list ds) => Q (ds.map W.d) noKc M1
  | .scr ds => Q (ds.map W.d) noKc M1
  | .ref p => ∃ ws, M1 p = some (.lst ws) ∧ Q ws (fun M => M p = some (.lst ws)) M1
  | _ => False
theorem getElem?_mapd {ds : List PyData} {j : Nat} {w : W} (e : (ds.map W.d)[j]? = some w) : ∃ d, w = .d d ∧ ds[j]? = some d := by
  rw [List.getElem?_map] at e
  cases h : ds[j]? with
  | none => rw [h] at e; cases e
  | some d => rw [h] at e; cases e; exact ⟨d, rfl, rfl⟩
theorem jl_list {K : PySem.W.Frag} {H1 : Hp} {M1 : MH} {a : Addr} {ws : List W} {kc : MH → Prop} (h : ∀ H2 M2, Ext H1 M1 H2 M2 → Dok K H2 M2 → kc M2 → ∃ xs, (∀ ys, SqL K H2 a ys → ys.length = xs.length → True) ∧ SqL K H2 a xs ∧ WvA K H2 M2 xs ws) : JL K (Itl K a) H1 M1 ws kc := by
  intro H2 M2 e d c
  obtain ⟨xs, _, hs, hw⟩ := h H2 M2 e d c
  have hl : xs.length = ws.length := Paired.length hw
  refine ⟨fun j w ej => ?_, ⟨xs, hs, by omega⟩⟩
  have : ∀ {xs : List V} {ws : List W} {j : Nat} {w : W}, WvA K H2 M2 xs ws → ws[j]? = some w → ∃ x, xs[j]? = some x ∧ Wv K H2 M2 x w := by
    intro xs ws j w h
    induction h generalizing j with
    | nil => intro q; simp at q
    | cons r t ih =>
      intro q
      cases j with
      | zero => simp at q; subst q; exact ⟨_, rfl, r⟩
      | succ j => obtain ⟨a, z1, z2⟩ := ih (j := j) (by simpa using q); exact ⟨a, by simpa using z1, z2⟩
  obtain ⟨x, ex, rx⟩ := this hw ej
  refine ⟨⟨xs, x, hs, ex⟩, fun y H3 ⟨e3, hy⟩ => ?_⟩
  subst e3
  have q := hy xs hs
  rw [ex] at q
  cases q
  exact ⟨.refl _ _, d, rx⟩
theorem jl_tup {K : PySem.W.Frag} {H1 : Hp} {M1 : MH} {a : Addr} {ws : List W} {kc : MH → Prop} (h : ∀ H2 M2, Ext H1 M1 H2 M2 → Dok K H2 M2 → kc M2 → ∃ xs, SqT K H2 a xs ∧ WvA K H2 M2 xs ws) : JL K (Itt K a) H1 M1 ws kc := by
  intro H2 M2 e d c
  obtain ⟨xs, hs, hw⟩ := h H2 M2 e d c
  have hl : xs.length = ws.length := Paired.length hw
  refine ⟨fun j w ej => ?_, ⟨xs, hs, by omega⟩⟩
  have : ∀ {xs : List V} {ws : List W} {j : Nat} {w : W}, WvA K H2 M2 xs ws → ws[j]? = some w → ∃ x, xs[j]? = some x ∧ Wv K H2 M2 x w := by
    intro xs ws j w h
    induction h generalizing j with
    | nil => intro q; simp at q
    | cons r t ih =>
      intro q
      cases j with
      | zero => simp at q; subst q; exact ⟨_, rfl, r⟩
      | succ j => obtain ⟨a, z1, z2⟩ := ih (j := j) (by simpa using q); exact ⟨a, by simpa using z1, z2⟩
  obtain ⟨x, ex, rx⟩ := this hw ej
  refine ⟨⟨xs, x, hs, ex⟩, fun y H3 ⟨e3, hy⟩ => ?_⟩
  subst e3
  have q := hy xs hs
  rw [ex] at q
  cases q
  exact ⟨.refl _ _, d, rx⟩
theorem i_tup {tg e : Expr} {t : TEd} (he : QE Y e t) : QI Y tg e (iTupD t) := by
  refine ⟨fun s H σ M Q S h => semIt_of (pi_tup pe_sem) (he.then_ S h fun v H1 w M1 e d r q => ?_)⟩
  split at q
  · rename_i ds
    obtain ⟨p, xs, rfl, h1, h2⟩ := r.tup
    exact ⟨p, rfl, ⟨xs, h1.sq⟩, _, _, M1, e, d, jl_tup fun H2 M2 e2 d2 _ => ⟨xs, (h1.ext e2).sq, (FzA.ext e2 ds xs h2).wv⟩, q⟩
  · exact q.elim
theorem i_lst {tg e : Expr} {t : TEd} (he : QE Y e t) : QI Y tg e (iLstD t) := by
  refine ⟨fun s H σ M Q S h => semIt_of (pi_list pe_sem) (he.then_ S h fun v H1 w M1 e d r q => ?_)⟩
  split at q
  · rename_i ds
    obtain ⟨p, xs, rfl, h1, h2⟩ := r.lst
    exact ⟨p, rfl, ⟨xs, h1.sq⟩, _, _, M1, e, d, jl_list fun H2 M2 e2 d2 _ => ⟨xs, fun _ _ _ => trivial, (h1.ext e2).sq, (FzA.ext e2 ds xs h2).wv⟩, q⟩
  · rename_i ds
    obtain ⟨p, xs, rfl, h1, h2⟩ := r
    exact ⟨p, rfl, ⟨xs, h1.sq⟩, _, _, M1, e, d, jl_list fun H2 M2 e2 d2 _ => ⟨xs, fun _ _ _ => trivial, (h1.ext e2).sq, (FzA.ext e2 ds xs h2).wv⟩, q⟩
  · obtain ⟨ws, hm, q⟩ := q
    obtain rfl := (show v = _ from r)
    obtain ⟨xs, h1, h2⟩ := d _ _ hm
    refine ⟨_, rfl, ⟨xs, SqL.of h1⟩, _, _, M1, e, d, jl_list fun H2 M2 e2 d2 c => ?_, q⟩
    obtain ⟨ys, k1, k2⟩ := d2 _ _ c
    exact ⟨ys, fun _ _ _ => trivial, SqL.of k1, k2⟩
  · exact q.elim
def signs (z : Str) : List W := z.cps.toList.map fun c => W.d (.str ⟨#[c]⟩)
def iStrD (t : TEd) : TId := fun σ M Q => t σ M fun w M1 => match w with | .d (.str z) => Q (signs z) noKc M1 | _ => False
theorem i_str {tg e : Expr} {t : TEd} (he : QE Y e t) : QI Y tg e (iStrD t) := by
  refine ⟨fun s H σ M Q S h => semIt_of (pi_str pe_sem) (he.then_ S h fun v H1 w M1 e d r q => ?_)⟩
  split at q
  · rename_i z
    refine ⟨z, r.str, _, _, M1, e, d, fun H2 M2 e2 d2 _ => ⟨fun j w ej => ?_, ?_⟩, q⟩
    · unfold signs at ej
      rw [List.getElem?_map, Array.getElem?_toList] at ej
      cases hc : z.cps[j]? with
      | none => rw [hc] at ej; cases ej
      | some c =>
        rw [hc] at ej
        cases ej
        refine ⟨(Array.getElem?_eq_some_iff.mp hc).1, fun x H3 ⟨e3, c', hc', ex⟩ => ?_⟩
        subst e3 ex
        rw [hc] at hc'
        cases hc'
        exact ⟨.refl _ _, d2, wStr _⟩
    · show z.cps.size ≤ _
      simp [signs]
  · exact q.elim
def rng (lo : Int) (n : Nat) : List W := (List.range n).map fun (j : Nat) => W.d (.int (lo + (j : Int)))
def big62 (n : Int) : Prop := -(2 ^ 62) ≤ n ∧ n < 2 ^ 62
theorem jl_rng {K : PySem.W.Frag} {H1 : Hp} {M1 : MH} {lo : Int} {n : Nat} : JL K (Itr lo n) H1 M1 (rng lo n) noKc := by
  intro H2 M2 e d _
  refine ⟨fun j w ej => ?_, ?_⟩
  · unfold rng at ej
    rw [List.getElem?_map] at ej
    cases h : (List.range n)[j]? with
    | none => rw [h] at ej; cases ej
    | some m =>
      rw [h] at ej
      cases ej
      obtain ⟨h1, h2⟩ := List.getElem?_eq_some_iff.mp h
      rw [List.length_range] at h1
      have h3 : j = m := by simpa using h2
      subst h3
      refine ⟨h1, fun x H3 ⟨e3, ex⟩ => ?_⟩
      subst e3 ex
      exact ⟨.refl _ _, d, wInt _⟩
  · show n ≤ _
    simp [rng]
def iRng1D (t : TAd) : TId := fun σ M Q => t σ M fun ws M1 => match ws with | [.d (.int n)] => big62 n ∧ Q (rng 0 n.toNat) noKc M1 | _ => False
def iRng2D (t : TAd) : TId := fun σ M Q => t σ M fun ws M1 => match ws with | [.d (.int m), .d (.int n)] => big62 m ∧ big62 n ∧ Q (rng m (n - m).toNat) noKc M1 | _ => False
theorem i_rng1 (F : Fm g i k Y) (j : Nat) {tg a : Expr} {t : TAd} {p pos : Pos} (hm : g.mg "range" = none) (ha : QA Y [a] t) (hj : i.gls[j]? = some "range" := by rfl) (hs : starEach [a] Y.X.env = [(false, eval a Y.X.env)] := by rfl) : QI Y tg (.Call (.Name "range" p) [a] [] pos) (iRng1D t) := by
  obtain ⟨h1, _, _⟩ := F.glo j _ hj
  refine ⟨fun s H σ M Q S h => semIt_of (pi_range1 h1 (by rw [F.hmg]; exact hm) pa_sem hs) (ha.then_ S h fun v H1 w M1 e d r q => ?_)⟩
  split at q
  · obtain ⟨v, rfl, r1⟩ := r.one
    exact ⟨_, by rw [r1.int], q.1.1, q.1.2, _, _, M1, e, d, jl_rng, q.2⟩
  · exact q.elim
theorem i_rng2 (F : Fm g i k Y) (j : Nat) {tg a b : Expr} {t : TAd} {p pos : Pos} (hm : g.mg "range" = none) (ha : QA Y [a, b] t) (hj : i.gls[j]? = some "range" := by rfl) (hs : starEach [a, b] Y.X.env = [(false, eval a Y.X.env), (false, eval b Y.X.env)] := by rfl)
    (hs2 : starEach [b] Y.X.env = [(false, eval b Y.X.env)] := by rfl) : QI Y tg (.Call (.Name "range" p) [a, b] [] pos) (iRng2D t) := by
  obtain ⟨h1, _, _⟩ := F.glo j _ hj
  refine ⟨fun s H σ M Q S h => semIt_of (pi_range2 h1 (by rw [F.hmg]; exact hm) pa_sem hs hs2) (ha.then_ S h fun v H1 w M1 e d r q => ?_)⟩
  split at q
  · obtain ⟨v, u, rfl, r1, r2⟩ := r.two
    exact ⟨_, _, by rw [r1.int, r2.int], ⟨q.1.1, q.1.2, q.2.1.1, q.2.1.2⟩, _, _, M1, e, d, jl_rng, q.2.2⟩
  · exact q.elim

/-! ### targets -/
def semG (X : Cx) (tg : Expr) : TG := fun v s H Q => ∀ pins sh u, Inv X pins s H sh → RelV v u → wpAny (model X.prog X.w) X.A (assign tg X.env u) (fun _ s' => ∃ σ' H', Inv X pins σ' H' s' ∧ Q σ' H') X.xe sh
theorem pg_sem {X : Cx} {tg : Expr} : PG X tg (semG X tg) := ⟨fun pins s _ _ _ u _ I r h => h pins s u I r⟩
theorem semG_of {X : Cx} {tg : Expr} {t : TG} (h : PG X tg t) {v : V} {s : L2.St} {H : Hp} {Q : L2.St → Hp → Prop} (q : t v s H Q) : semG X tg v s H Q := fun pins sh u I r => h.run pins sh s H v u Q I r q
theorem semG_mono {X : Cx} {tg : Expr} {v : V} {s : L2.St} {H : Hp} {Q Q' : L2.St → Hp → Prop} (h : semG X tg v s H Q) (k : ∀ σ H, Q σ H → Q' σ H) : semG X tg v s H Q' := fun pins sh u I r =>
  thn (h pins sh u I r) fun _ _ ⟨σ', H', I', q⟩ => ⟨σ', H', I', k _ _ q⟩
abbrev TGd := W → SD → MH → (SD → MH → Prop) → Prop
structure QG (Y : Dx) (tg : Expr) (t : TGd) : Prop where
  run : ∀ s H σ M v w Q, Std Y s H σ M → Wv Y.X.K H M v w → t w σ M Q → semG Y.X tg v s H (upS Y H M Q)
def gNam (j : Nat) : TGd := fun w σ M Q => Q (σ.set j (some w)) M
theorem g_name (F : Fm g i k Y) (j : Nat) {x : Str} {pos : Pos} (hN : i.N[j]? = some x := by rfl) (hl : i.loc.contains j = true := by rfl) : QG Y (.Name x pos) (gNam j) := by
  have hk := F.loc j x hl hN
  exact ⟨fun s H σ M v w Q S r h => semG_of (pg_name (i := j) (by rw [F.N]; exact F.nd) (by rw [F.N]; exact hN) (.inl hk) (.inr hk)) ⟨_, M, .refl _ _, S.set r j, h⟩⟩
theorem g_cell (F : Fm g i k Y) (j : Nat) {x : Str} {pos : Pos} (hN : i.N[j]? = some x := by rfl) (hl : i.cel.contains j = true := by rfl) : QG Y (.Name x pos) (gNam j) := by
  have hk := F.cel j x hl hN
  exact ⟨fun s H σ M v w Q S r h => semG_of (pg_name (i := j) (by rw [F.N]; exact F.nd) (by rw [F.N]; exact hN) (.inr hk.1) (.inl hk.2)) ⟨_, M, .refl _ _, S.set r j, h⟩⟩
/-- (a, b, ..) = a tuple -/
abbrev TGsd := List W → SD → MH → (SD → MH → Prop) → Prop
def semGs (X : Cx) (ts : List Expr) : TGs := fun vs s H Q => ∀ pins sh us, Inv X pins s H sh → Vals vs us → wpAny (model X.prog X.w) X.A (assignInOrder ((assignEach ts X.env).map (·.2)) us) (fun _ s' => ∃ σ' H', Inv X pins σ' H' s' ∧ Q σ' H') X.xe sh
theorem pgs_sem {X : Cx} {ts : List Expr} : PGs X ts (semGs X ts) := ⟨fun pins s _ _ _ us _ I r h => h pins s us I r⟩
theorem semGs_of {X : Cx} {ts : List Expr} {t : TGs} (h : PGs X ts t) {vs : List V} {s : L2.St} {H : Hp} {Q : L2.St → Hp → Prop} (q : t vs s H Q) : semGs X ts vs s H Q := fun pins sh us I r => h.run pins sh s H vs us Q I r q
theorem semGs_mono {X : Cx} {ts : List Expr} {vs : List V} {s : L2.St} {H : Hp} {Q Q' : L2.St → Hp → Prop} (h : semGs X ts vs s H Q) (k : ∀ σ H, Q σ H → Q' σ H) : semGs X ts vs s H Q' := fun pins sh us I r =>
  thn (h pins sh us I r) fun _ _ ⟨σ', H', I', q⟩ => ⟨σ', H', I', k _ _ q⟩
structure QGs (Y : Dx) (ts : List Expr) (t : TGsd) : Prop where
  run : ∀ s H σ M vs ws Q, Std Y s H σ M → WvA Y.X.K H M vs ws → t ws σ M Q → semGs Y.X ts vs s H (upS Y H M Q)
def gNilD : TGsd := fun ws σ M Q => match ws with | [] => Q σ M | _ => False
def gConsD (t : TGd) (u : TGsd) : TGsd := fun ws σ M Q => match ws with | w :: r => t w σ M fun σ' M' => u r σ' M' Q | [] => False
theorem gs_nil : QGs Y [] gNilD := by
  refine ⟨fun s H σ M vs ws Q S r h => ?_⟩
  cases r with
  | nil => exact semGs_of pgs_nil ⟨rfl, σ, M, .refl _ _, S, h⟩
  | cons _ _ => exact (show False from h).elim
theorem gs_cons {e : Expr} {es : List Expr} {t : TGd} {u : TGsd} (h1 : QG Y e t) (h2 : QGs Y es u) (hs : (assignEach (e :: es) Y.X.env).map (·.2) = assign e Y.X.env :: (assignEach es Y.X.env).map (·.2) := by rfl) : QGs Y (e :: es) (gConsD t u) := by
  refine ⟨fun s H σ M vs ws Q S r h => ?_⟩
  cases r with
  | nil => exact (show False from h).elim
  | cons r1 r2 =>
    refine semGs_of (pgs_cons pg_sem pgs_sem hs) ⟨_, _, rfl, semG_mono (h1.run s H σ M _ _ _ S r1 h) fun s1 H1 ⟨σ1, M1, e, S1, q⟩ => ?_⟩
    exact semGs_mono (h2.run s1 H1 σ1 M1 _ _ _ S1 (WvA.ext e r2) q) fun _ _ z => z.trans e
def gTupD (n : Nat) (t : TGsd) : TGd := fun w σ M Q => match w with | .d (.tuple ds) => ds.length = n ∧ t (ds.map W.d) σ M Q | _ => False
theorem g_tup (F : Fm g i k Y) {es : List Expr} {kk : Nat} {t : TGsd} {n : Nat} {pos : Pos} (h : QGs Y es t) (hn : (assignEach es Y.X.env).length = n := by rfl) (hst : (assignEach es Y.X.env).findIdx? (·.1) = none := by rfl) (hc : i.hot = false := by rfl) : QG Y (.Tuple es kk pos) (gTupD n t) := by
  refine ⟨fun s H σ M v w Q S r hq => ?_⟩
  unfold gTupD at hq
  split at hq
  · obtain ⟨p, xs, rfl, h1, h2⟩ := r.tup
    exact semG_of (pg_tup (F.calm hc) pgs_sem hn hst) ⟨p, xs, rfl, h1.sq, by rw [h2.length]; exact hq.1, h.run s H σ M xs _ Q S h2.wv hq.2⟩
  · exact hq.elim
end
end Dl
set_option Elab.async false
set_option linter.all false
set_option maxRecDepth 100000
namespace Dl
open PySem PySem.Spec PyProof.Rows L2

section
variable {g : Gc} {i : Si} {k : Nat} {Y : Dx}
/-! ### statements -/
def tNxt : TSd := fun D σ M => D.nx σ M
def tSq (t u : TSd) : TSd := fun D σ M => t { D with nx := u D } σ M
theorem ss_nil : QSs Y [] tNxt := ⟨fun _ _ σ M _ S h => semSs_of pss_nil ⟨σ, M, .refl _ _, S, h⟩⟩
theorem ss_cons {st : Stmt} {rest : List Stmt} {t u : TSd} (h1 : QS Y st t) (h2 : QSs Y rest u) : QSs Y (st :: rest) (tSq t u) := by
  refine ⟨fun s H σ M D S h => semSs_of (pss_cons ps_sem pss_sem) ?_⟩
  exact semS_mono (h1.run s H σ M { D with nx := u D } S h) (fun s1 H1 ⟨σ1, M1, e, S1, q⟩ => semSs_up e (h2.run s1 H1 σ1 M1 D S1 q)) (fun _ _ z => z) (fun _ _ z => z) fun _ _ z => z
theorem ss_one {st : Stmt} {t : TSd} (h1 : QS Y st t) : QSs Y [st] t := ⟨fun s H σ M D S h => semSs_of (pss_one ps_sem) (h1.run s H σ M D S h)⟩
def tRtn (t : TEd) : TSd := fun D σ M => t σ M D.rt
theorem s_ret {e : Expr} {t : TEd} {pos : Pos} (h : QE Y e t) : QS Y (.Return (some e) pos) (tRtn t) := ⟨fun s H σ M D S hq => semS_of (ps_ret pe_sem) (h.run s H σ M D.rt S hq)⟩
def tRtn0 : TSd := fun D _ M => D.rt (.d .none) M
theorem s_ret0 {pos : Pos} : QS Y (.Return none pos) tRtn0 := ⟨fun _ _ _ _ _ S h => semS_of ps_retN (S.here wNone h)⟩
def tIfD (c : TTd) (t u : TSd) : TSd := fun D σ M => c σ M fun b M1 => if b = true then t D σ M1 else u D σ M1
theorem s_if {c : Expr} {a b : List Stmt} {tc : TTd} {t u : TSd} {pos : Pos} (hc : QT Y c tc) (ha : QSs Y a t) (hb : QSs Y b u) : QS Y (.If c a b pos) (tIfD tc t u) := by
  refine ⟨fun s H σ M D S hq => semS_of (ps_if pt_sem pss_sem pss_sem) (hc.then_ S hq fun c H1 M1 e d q => ?_)⟩
  cases c with
  | true => exact iteT (semSs_up e (ha.run s H1 σ M1 D (S.go e d) (by simpa using q)))
  | false => exact iteF (semSs_up e (hb.run s H1 σ M1 D (S.go e d) (by simpa using q)))
def tAsn (t : TEd) (gt : TGd) : TSd := fun D σ M => t σ M fun w M1 => gt w σ M1 D.nx
theorem s_set {tg e : Expr} {t : TEd} {gt : TGd} {pos : Pos} (he : QE Y e t) (hg : QG Y tg gt) (hs : swapsWithSole [tg] e pos.line Y.X.env = pure false := by rfl) (hw : swappedStores [tg] e Y.X.env = pure none := by rfl)
    (h1 : (assignEach [tg] Y.X.env).map (·.2) = [assign tg Y.X.env] := by rfl) : QS Y (.Assign [tg] e pos) (tAsn t gt) := by
  refine ⟨fun s H σ M D S h => semS_of (ps_asg pe_sem pg_sem hs hw h1) (he.then_ S h fun v H1 w M1 e d r q => ?_)⟩
  exact semG_mono (hg.run s H1 σ M1 v w D.nx (S.go e d) r q) fun _ _ z => z.trans e
/-- a, b = x, y with plain local names -/
def tPr (a b : Nat) (t : TAd) : TSd := fun D σ M => t σ M fun ws M1 => match ws with | [w, u] => D.nx ((σ.set a (some w)).set b (some u)) M1 | _ => False
theorem s_par (F : Fm g i k Y) (a b : Nat) {x y : Str} {ea eb : Expr} {t : TAd} {px py pt : Pos} {kt k2 pt2} {pos : Pos} (ha : QA Y [ea, eb] t) (hi : i.N[a]? = some x := by rfl) (hj : i.N[b]? = some y := by rfl) (la : i.loc.contains a = true := by rfl) (lb : i.loc.contains b = true := by rfl) (hab : a ≠ b := by decide)
    (hw' : ∀ env : Env, swappedStores [.Tuple [.Name x px, .Name y py] kt pt] (.Tuple [ea, eb] k2 pt2) { env with scope := i.sc } = pure (some [x, y]) := by intro; rfl)
    (hs : swapsWithSole [.Tuple [.Name x px, .Name y py] kt pt] (.Tuple [ea, eb] k2 pt2) pos.line Y.X.env = pure false := by rfl) (hc : i.hot = false := by rfl) :
    QS Y (.Assign [.Tuple [.Name x px, .Name y py] kt pt] (.Tuple [ea, eb] k2 pt2) pos) (tPr a b t) := by
  have hw : swappedStores [.Tuple [.Name x px, .Name y py] kt pt] (.Tuple [ea, eb] k2 pt2) Y.X.env = pure (some [x, y]) := by
    have e : Y.X.env = { Y.X.env with scope := i.sc } := by rw [← F.hsc]
    rw [e]
    exact hw' _
  refine ⟨fun s H σ M D S h => semS_of (ps_par (i := a) (j := b) (F.calm hc) (by rw [F.N]; exact F.nd) (by rw [F.N]; exact hi) (by rw [F.N]; exact hj) hab (F.loc a x la hi) (F.loc b y lb hj) pa_sem hw hs) (ha.then_ S h fun vs H1 ws M1 e d r q => ?_)⟩
  split at q
  · obtain ⟨v, u, rfl, r1, r2⟩ := r.two
    exact ⟨v, u, rfl, _, M1, e, ((S.go e d).set r1 a).set r2 b, q⟩
  · exact q.elim
def tDrp (t : TEd) : TSd := fun D σ M => t σ M fun _ M1 => D.nx σ M1
theorem s_expr {e : Expr} {t : TEd} {pos : Pos} (he : QE Y e t) (hs : swapsWith e none pos.line Y.X.env = pure false := by rfl) : QS Y (.Expr e pos) (tDrp t) :=
  ⟨fun s H σ M D S h => semS_of (ps_expr pe_sem hs) (he.then_ S h fun v H1 w M1 e d r q => ⟨σ, M1, e, S.go e d, q⟩)⟩
theorem s_pass {pos : Pos} : QS Y (.Pass pos) tNxt := ⟨fun _ _ σ M _ S h => semS_of ps_pass ⟨σ, M, .refl _ _, S, h⟩⟩
theorem s_doc {x j pos pos'} : QS Y (.Expr (.Constant (.str x) j pos) pos') tNxt := ⟨fun _ _ σ M _ S h => semS_of ps_doc ⟨σ, M, .refl _ _, S, h⟩⟩
def tBrk : TSd := fun D σ M => D.bk σ M
def tCnt : TSd := fun D σ M => D.ct σ M
theorem s_brk {pos : Pos} : QS Y (.Break pos) tBrk := ⟨fun _ _ σ M _ S h => semS_of ps_break ⟨σ, M, .refl _ _, S, h⟩⟩
theorem s_cnt {pos : Pos} : QS Y (.Continue pos) tCnt := ⟨fun _ _ σ M _ S h => semS_of ps_continue ⟨σ, M, .refl _ _, S, h⟩⟩
/-- o[i] = v, o a list that may change -/
def gSubD (to ti : TEd) : TGd := fun w σ M Q => to σ M fun o M1 => ti σ M1 fun j M2 => match o, j with
  | .ref p, .d (.int n) => ∃ ws, M2 p = some (.lst ws) ∧ ∃ m, ixN ws.length n = some m ∧ Q σ (mset M2 p (.lst (ws.set m w)))
  | _, _ => False
theorem set_paired {α β : Type} {R : α → β → Prop} {a : α} {b : β} (r : R a b) : ∀ {xs : List α} {ys : List β} (n : Nat), Paired R xs ys → Paired R (xs.set n a) (ys.set n b)
  | _, _, _, .nil => .nil
  | _, _, 0, .cons _ t => .cons r t
  | _, _, n + 1, .cons q t => .cons q (set_paired r n t)
theorem g_sub {o j : Expr} {to ti : TEd} {pos : Pos} (ho : QE Y o to) (hi : QE Y j ti)
    (ha : ∀ v, assign (.Subscript o j pos) Y.X.env v = (do
      let ov ← holding [v] (eval o Y.X.env)
      let iv ← holding [v, ov] (eval j Y.X.env)
      standAt pos
      holding [v, ov, iv] (setItem ov iv v)
      release [v, ov, iv] []) := by intro _; rfl) : QG Y (.Subscript o j pos) (gSubD to ti) := by
  refine ⟨fun s H σ M v w Q S r h => semG_of (pg_sub pe_sem pe_sem set_list ha) (ho.then_ S h fun vo H1 wo M1 e d r1 q => hi.then_ (S.go e d) q fun vi H2 wi M2 e2 d2 r2 q2 => ?_)⟩
  split at q2
  · rename_i p n
    obtain ⟨ws, hm, m, hx, q⟩ := q2
    obtain rfl := (show vo = _ from r1)
    obtain ⟨xs, k1, k2⟩ := d2 _ _ hm
    have hl : xs.length = ws.length := Paired.length k2
    have nn : M2 p ≠ none := by rw [hm]; exact fun z => by cases z
    have rw' := r.ext (e.trans e2)
    have X : Ext H2 M2 (upd H2 p (.lst (xs.set m v))) (mset M2 p (.lst (ws.set m w))) := ext_mut (.inl nn)
    have dd : Dok Y.X.K (upd H2 p (.lst (xs.set m v))) (mset M2 p (.lst (ws.set m w))) := dok_mut (u := .lst (ws.set m w)) d2 (.inl nn) fun e => ⟨_, upd_same, WvA.ext e (set_paired rw' m k2)⟩
    exact ⟨p, xs, n, m, rfl, r2.int, k1, by rw [hl]; exact hx, σ, _, (e.trans e2).trans X, S.go ((e.trans e2).trans X) dd, q⟩
  · exact q2.elim

/-! ### loops -/
def tForD (ti : TId) (gt : TGd) (tb : TSd) : TSd := fun D σ M => ti σ M fun ws kc M1 => ∃ I : Nat → SD → MH → Prop, I 0 σ M1 ∧ (∀ j σ2 M2, I j σ2 M2 → kc M2) ∧
  (∀ j w σ2 M2, ws[j]? = some w → I j σ2 M2 → gt w σ2 M2 fun σ3 M3 => tb { D with nx := I (j + 1), ct := I (j + 1), bk := D.nx } σ3 M3) ∧ (∀ σ2 M2, I ws.length σ2 M2 → D.nx σ2 M2)
theorem s_for (F : Fm g i k Y) {tg iter : Expr} {body : List Stmt} {ti : TId} {gt : TGd} {tb : TSd} {pos : Pos} (hi : QI Y tg iter ti) (hg : QG Y tg gt) (hb : QSs Y body tb) (hs : ∀ x, foldedSetIterable iter Y.X.env x = pure x := by intro _; rfl) (hc : i.hot = false := by rfl) : QS Y (.For tg iter body [] pos) (tForD ti gt tb) := by
  refine ⟨fun s H σ M D S h => semS_of (ps_for F.po (F.calm hc) pi_sem pg_sem pss_sem hs) ?_⟩
  have z := hi.run s H σ M _ S h
  intro pins1 sh1 I1
  refine thn (z pins1 sh1 I1) fun v s1 hv => thn hv fun it s2 ⟨ad, fp, tn, J, H1, e1, e2, e3, e4, e5, ws, kc, M1, e, d, jl, I, i0, ikc, step, done⟩ => ?_
  refine ⟨ad, fp, tn, J, H1, e1, e2, e3, e4, e5, fun j m s' H' => m = ws.length - j ∧ j ≤ ws.length ∧ ∃ σ' M', Ext H1 M1 H' M' ∧ Std Y s' H' σ' M' ∧ I j σ' M', ⟨ws.length, by simp, Nat.zero_le _, σ, M1, .refl _ _, S.go e d, i0⟩, ?_⟩
  rintro j m s3 H3 ⟨rfl, hj, σ3, M3, x3, S3, q3⟩
  obtain ⟨hgo, hstop⟩ := jl H3 M3 x3 S3.d (ikc _ _ _ q3)
  by_cases hlt : j < ws.length
  · obtain ⟨hg1, hg2⟩ := hgo j ws[j] (by simp [hlt])
    refine .inr ⟨hg1, upS Y H3 M3 (fun σ' M' => I (j + 1) σ' M'), fun s4 H4 ⟨σ4, M4, x4, S4, q4⟩ => ⟨ws.length - (j + 1), by omega, rfl, hlt, σ4, M4, x3.trans x4, S4, q4⟩, fun x H4 hy => ?_⟩
    obtain ⟨x4, d4, r4⟩ := hg2 x H4 hy
    have q5 := step j ws[j] σ3 M3 (by simp [hlt]) q3
    refine semG_mono (hg.run s3 H4 σ3 M3 x _ _ (S3.go x4 d4) r4 q5) fun s5 H5 ⟨σ5, M5, x5, S5, q6⟩ => ?_
    have z6 := hb.run s5 H5 σ5 M5 _ S5 q6
    exact semSs_mono z6 (fun _ _ z => z.trans (x4.trans x5)) (fun _ _ z => z.trans (((e.trans x3).trans x4).trans x5)) (fun _ _ z => z.trans (((e.trans x3).trans x4).trans x5)) (fun _ _ z => z.trans (x4.trans x5))
  · have hj' : j = ws.length := by omega
    subst hj'
    exact .inl ⟨hstop, σ3, M3, e.trans x3, S3, done _ _ q3⟩
def tWhl (c : TTd) (tb : TSd) : TSd := fun D σ M => ∃ I : Nat → SD → MH → Prop, (∃ m, I m σ M) ∧ ∀ m σ M, I m σ M →
  c σ M fun b M1 => if b = true then tb { D with nx := fun σ' M' => ∃ m', m' < m ∧ I m' σ' M', ct := fun σ' M' => ∃ m', m' < m ∧ I m' σ' M', bk := D.nx } σ M1 else D.nx σ M1
theorem s_while (F : Fm g i k Y) {c : Expr} {body : List Stmt} {tc : TTd} {tb : TSd} {pos : Pos} (hc : QT Y c tc) (hb : QSs Y body tb) : QS Y (.While c body [] pos) (tWhl tc tb) := by
  refine ⟨fun s H σ M D S h => semS_of (ps_while F.po pt_sem pss_sem) ?_⟩
  obtain ⟨I, ⟨m0, i0⟩, step⟩ := h
  refine ⟨fun m s' H' => ∃ σ' M', Ext H M H' M' ∧ Std Y s' H' σ' M' ∧ I m σ' M', ⟨m0, σ, M, .refl _ _, S, i0⟩, fun m s1 H1 ⟨σ1, M1, e1, S1, q1⟩ => ?_⟩
  refine hc.then_ S1 (step m σ1 M1 q1) fun b H2 M2 e2 d2 q2 => ?_
  cases b with
  | true =>
    refine iteT ⟨upS Y H2 M2 (fun σ' M' => ∃ m', m' < m ∧ I m' σ' M'), fun s3 H3 ⟨σ3, M3, e3, S3, m', hm, q3⟩ => ⟨m', hm, σ3, M3, (e1.trans e2).trans e3, S3, q3⟩, ?_⟩
    have z := hb.run s1 H2 σ1 M2 _ (S1.go e2 d2) (show tb _ σ1 M2 from by simpa using q2)
    exact semSs_mono z (fun _ _ z => z) (fun _ _ z => z.trans (e1.trans e2)) (fun _ _ z => z.trans (e1.trans e2)) (fun _ _ z => z)
  | false => exact iteF ⟨σ1, M2, e1.trans e2, S1.go e2 d2, by simpa using q2⟩
end
end Dl
set_option Elab.async false
set_option linter.all false
set_option maxRecDepth 100000
namespace Dl
open PySem PySem.Spec PyProof.Rows L2

/-! ### defs -/
abbrev SpD := List W → MH → (W → MH → Prop) → XD → Prop
def lift (K : PySem.W.Frag) (sp : SpD) : Sp := fun vs H Q E => ∃ ws M Qd Ed, Dok K H M ∧ WvA K H M vs ws ∧ sp ws M Qd Ed ∧
  (∀ v H' w M', Ext H M H' M' → Dok K H' M' → Wv K H' M' v w → Qd w M' → Q v H') ∧ (∀ cls d H' fs M', Ext H M H' M' → Dok K H' M' → XFs K H' M' d fs → Ed cls fs M' → E cls d H')
structure FnG (g : Gc) (k : Nat) (f : Addr) (fd : FuncData) (ps : List Str) (sp : SpD) (hot : Bool := false) : Prop where
  len : ∀ ws M Q E, sp ws M Q E → ws.length = ps.length
  run : ∀ (A : Around) (outer : List Env) (s : Shared) (H : Hp) (args : Args) (us : List Value) (vs : List V) (Q : VK) (E : XK), A.guards = some [] → (hot = false → A.handled = none) → RmH k A → Env0 g.P g.w g.K g.mg g.base A outer s H →
    BindsTo s fd args (ps.zip us) → Vals vs us → lift g.K sp vs H Q E → codeAny (model g.P g.w) A (.call (.ref f) args) (CR (L2.CX g.P g.w) outer g.P g.w H s Q E) s
theorem FnG.mono {g : Gc} {j k : Nat} {f : Addr} {fd : FuncData} {ps : List Str} {sp : SpD} {hot : Bool} (F : FnG g j f fd ps sp hot) (h : j ≤ k) : FnG g k f fd ps sp hot :=
  ⟨F.len, fun A outer s H args us vs Q E hg hh hr => F.run A outer s H args us vs Q E hg hh (hr.mono h)⟩
theorem FnG.imp {g : Gc} {k : Nat} {f : Addr} {fd : FuncData} {ps : List Str} {sp sp' : SpD} {hot : Bool} (F : FnG g k f fd ps sp hot) (h : ∀ ws M Q E, sp' ws M Q E → sp ws M Q E) : FnG g k f fd ps sp' hot :=
  ⟨fun ws M Q E q => F.len ws M Q E (h _ _ _ _ q), fun A outer s H args us vs Q E hg hh hr he hb hv ⟨ws, M, Qd, Ed, h1, h2, h3, h4⟩ => F.run A outer s H args us vs Q E hg hh hr he hb hv ⟨ws, M, Qd, Ed, h1, h2, h _ _ _ _ h3, h4⟩⟩
def startD (N : List Str) (ws : List W) : SD := ws.map some ++ List.replicate (N.length - ws.length) none

/-- what the scope's look gives -/
theorem vis_of {N : List Str} {sc : Scope} {l : List Nat} (h : visOk N sc l = true) : ∀ j x, l.contains j = true → N[j]? = some x → Vis sc x ∧ (x == ("__debug__" : Str)) = false ∧ (x == ("__classdict__" : Str)) = false := by
  intro j x hj hx
  unfold visOk at h
  have z := List.all_eq_true.mp h j (by simpa using hj)
  rw [hx] at z
  simp only [Bool.and_eq_true, beq_iff_eq] at z
  obtain ⟨⟨z1, z2⟩, z3⟩ := z
  refine ⟨?_, by simpa using z2, by simpa using z3⟩
  split at z1
  · exact .inl (by assumption)
  · exact .inr (.inl (by assumption))
  · exact .inr (.inr (by assumption))
  · cases z1
theorem kind_of {N : List Str} {sc : Scope} {kd : NameKind} {l : List Nat} (h : kindOk N sc kd l = true) : ∀ j x, l.contains j = true → N[j]? = some x → sc.names.lookup x = some kd := by
  intro j x hj hx
  unfold kindOk at h
  have z := List.all_eq_true.mp h j (by simpa using hj)
  rw [hx] at z
  simpa using z
theorem glo_of {sc : Scope} {l : List Str} (h : gloOk sc l = true) : ∀ (j : Nat) x, l[j]? = some x → sc.names.lookup x = some .globalImplicit ∧ (x == ("__debug__" : Str)) = false ∧ x ≠ "__name__" := by
  intro j x hx
  unfold gloOk at h
  have z := List.all_eq_true.mp h x (List.mem_of_getElem? hx)
  simp only [Bool.and_eq_true, decide_eq_true_eq, beq_iff_eq] at z
  exact ⟨z.1.1, by simpa using z.1.2, z.2⟩
/-- all looks at a def's scope -/
structure ScOk (i : Si) (sc : Scope) : Prop where
  e : i.sc = sc
  v : visOk i.N sc i.vis = true
  l : kindOk i.N sc .local i.loc = true
  c : kindOk i.N sc .cell i.cel = true
  g : gloOk sc i.gls = true

theorem fng_of {g : Gc} {i : Si} {k : Nat} {x qual : Str} {st : Stmt} {f : Addr} {fd : FuncData} {ps : List Str} {sp : SpD} (F : Fun g.K x qual st f fd) (Sc : FnScope i.N ps (defScope st)) (ok : ScOk i (defScope st)) (hsy : SysOk g.base)
    (len : ∀ ws M Q E, sp ws M Q E → ws.length = ps.length)
    (body : ∀ (Y : Dx) (ws : List W) (M : MH) (Q : W → MH → Prop) (E : XD), Fm g i k Y → Y.wd = (fun cls fs _ M' => E cls fs M') → sp ws M Q E → ∃ t, QSs Y (defBody st) t ∧ t { nx := fun _ M' => Q (.d .none) M', rt := Q } (startD i.N ws) M) :
    FnG g (k + 1) f fd ps sp i.hot := by
  obtain ⟨oc, od, kV, doc, pm, an, cdv, ct, osl, rfl, lk, hcd⟩ := F.ex
  refine ⟨len, fun A outer s H args us vs Q E hgd hh hr e0 hb rv hlift => ?_⟩
  obtain ⟨ws, M, Qd, Ed, hD, hw, hsp, kQ, kE⟩ := hlift
  have lw := len _ _ _ _ hsp
  have lv : vs.length = ps.length := (Paired.length hw).trans lw
  have KX : g.K.In s.heap := e0.mod.kin.keeps fun b o z => (e0.bs b o z).1
  have nolim : s.heap.NoLimit := e0.mod.nolimit.keeps fun b o z => (e0.bs b o z).1
  have kinds : ∀ y ∈ ps.zip us, (defScope st).names.lookup y.1 = some .local ∨ ((defScope st).names.lookup y.1 = some .cell ∧ ((cellsFrom (s.heap.objs.size + 1) (defScope st).names []).lookup y.1).isSome = true) := by
    rintro ⟨n, u⟩ hy
    have hn := (List.of_mem_zip hy).1
    rcases Sc.par n hn with z | z
    · exact Or.inl z
    · exact Or.inr ⟨z, PySem.W.cellsFrom_some _ _ _ (Or.inl z)⟩
  refine codeAny_call_function hr.depth (KX _ _ lk) rfl Sc.co Sc.gen rfl (PySem.W.codeRec_of KX hcd) ?_
  refine hb _ _ _ _ ?_
  refine wpAny_newFunctionEnv_cells Sc.kind kinds fun env henv s1 inC => ?_
  subst henv
  refine ⟨nolim.keeps inC.toInCall.keep, ?_⟩
  refine codeAny_func ?_
  obtain ⟨X, hX⟩ : ∃ X : Cx, X = { cxOf (L2.CX g.P g.w) g.P g.w g.K g.mg g.base i.N qual (defScope st) f cdv A outer s H E with calm := !i.hot } := ⟨_, rfl⟩
  have I : Inv X [] (start i.N vs) H s1 := by
    subst hX
    have e1 : Env0 g.P g.w g.K g.mg g.base { A with handled := none } outer s H := ⟨e0.frames, e0.mod, e0.bs, e0.bsz, e0.funs, e0.frf, e0.hok, e0.bare⟩
    have J := inv_start (CX := L2.CX g.P g.w) (E := E) Sc (A := { A with handled := none }) rfl e1 lv rv inC
    have o := J.ok
    exact ⟨⟨o.mod, o.kind, o.glob, o.blt, o.above, o.inj, o.has, o.cab, (fun z => hh (by simpa using z)), Around.frames_deeper e0.frames, o.stk, o.exf, o.bs, o.bsz, o.noex, o.exfs, o.funs, o.frf⟩, J.os, J.bare, J.base, J.loc, J.cell, J.free, J.freeC, J.pin, J.hok, J.len⟩
  obtain ⟨Y, hY⟩ : ∃ Y : Dx, Y = { X := X, H0 := H, M0 := M, wd := fun cls fs _ M' => Ed cls fs M' } := ⟨_, rfl⟩
  have hXK : X.K = g.K := by subst hX; rfl
  have hYX : Y.X = X := by rw [hY]
  have Fmm : Fm g i k Y := by
    subst hY
    subst hX
    refine ⟨rfl, rfl, rfl, rfl, rfl, rfl, ok.e.symm, Sc.nd, (fun z => by show (!i.hot) = true; rw [z]; rfl), hh, hgd, hr.deeper _, (fun _ => ⟨rfl, rfl⟩), vis_of ok.v, kind_of ok.l, fun j x h1 h2 => ⟨kind_of ok.c j x h1 h2, rfl⟩, glo_of ok.g, hsy, ?_, ?_⟩
    · refine (takes_of (E := E) rfl rfl rfl rfl).imp fun cls d s' H' ⟨σ', M', fs, S', xf, w⟩ => ?_
      exact kE cls d H' fs M' S'.e S'.d xf w
    · exact passes_of rfl
  obtain ⟨t, ht, hq⟩ := body Y ws M Qd Ed Fmm (by rw [hY]) hsp
  have hD' : Dok X.K H M := by rw [hXK]; exact hD
  have hw' : WvA X.K H M vs ws := by rw [hXK]; exact hw
  have St0 : Std Y (start i.N vs) H (startD i.N ws) M := by
    subst hY
    refine ⟨.refl _ _, hD', ?_⟩
    unfold L2.start startD
    rw [Paired.length hw]
    exact slots_start _ hw'
  have run := ht.run _ _ _ _ _ St0 hq [] s1 (by rw [hYX]; exact I)
  rw [hYX] at run
  have fin : ∀ {σ' : L2.St} {H' : Hp} {v : V} {u : Value} {s' : Shared}, Inv X [] σ' H' s' → RelV v u → up Y H M Qd v H' → CE outer g.P g.w H s Q u s' := by
    intro σ' H' v u s' J rv ⟨w, M', e1, d1, r1, q1⟩
    rw [hYX, hXK] at d1 r1
    have q2 := kQ v H' w M' e1 d1 r1 q1
    subst hX
    exact ⟨v, H', J.os, J.bare, J.base, J.hok, rv, q2⟩
  subst hX
  refine wpAny_mono run (fun fl s' hs => ?_) fun e s' hs => hs
  cases fl with
  | next =>
    obtain ⟨σ', H', J, σd, M', e1, S1, q⟩ := hs
    exact fin (v := V.non) (u := Value.none) J rfl ⟨_, M', e1, S1.d, wNone, q⟩
  | ret u =>
    obtain ⟨v, σ', H', J, rv, q⟩ := hs
    exact fin J rv q
  | brk => obtain ⟨_, _, _, _, _, _, _, q⟩ := hs; exact q.elim
  | cont => obtain ⟨_, _, _, _, _, _, _, q⟩ := hs; exact q.elim

/-- a def of the module, for its callers -/
structure Df (g : Gc) (k : Nat) (x : Str) (ps : List Str) (sp : SpD) (hot : Bool := false) : Prop where
  ex : ∃ f fd, FnG g k f fd ps sp hot ∧ g.mg x = some (.ref f) ∧ PySem.W.keepIn g.K (.ref f) = true ∧ Binds g.K fd ps []
theorem Df.imp {g : Gc} {k : Nat} {x : Str} {ps : List Str} {sp sp' : SpD} {hot : Bool} (D : Df g k x ps sp hot) (h : ∀ ws M Q E, sp' ws M Q E → sp ws M Q E) : Df g k x ps sp' hot := by
  obtain ⟨f, fd, F, z⟩ := D.ex
  exact ⟨f, fd, F.imp h, z⟩

section
variable {g : Gc} {i : Si} {k : Nat} {Y : Dx}
def tFn (sp : SpD) (wd : Value → XF → SD → MH → Prop) (t : TAd) : TEd := fun σ M Q => t σ M fun ws M1 => sp ws M1 Q (fun cls fs M' => wd cls fs σ M')
theorem fn_run (F : Fm g i k Y) {j : Nat} {f : Addr} {fd : FuncData} {ps : List Str} {sp : SpD} {hot : Bool} (D : FnG g j f fd ps sp hot) (hh : hot = true ∨ i.hot = false) (hj : j ≤ k) (hb : Binds g.K fd ps []) {s H σ M vs ws Q} (S : Std Y s H σ M) (r : WvA Y.X.K H M vs ws) (h : sp ws M Q (fun cls fs M' => Y.wd cls fs σ M')) {pins : List (Addr × Obj)} {sh : Shared} {us : List Value}
    (I : Inv Y.X pins s H sh) (ru : Vals vs us) : wpAny (model Y.X.prog Y.X.w) Y.X.A (call (.ref f) us) (EP Y.X pins s (up Y H M Q)) Y.X.xe sh := by
  have lw := D.len _ _ _ _ h
  have lu : us.length = ps.length := by rw [← ru.length, Paired.length r, lw]
  have kin : g.K.In sh.heap := by rw [← F.hK]; exact I.kIn
  have bd := hb sh us kin (by rw [List.append_nil]; exact lu)
  rw [List.append_nil] at bd
  have e0 : Env0 g.P g.w g.K g.mg g.base Y.X.A Y.X.stack sh H := by rw [← F.hP, ← F.hw, ← F.hK, ← F.hmg, ← F.hb]; exact I.env0
  have hl : lift g.K sp vs H (up Y H M Q) (fun cls d H' => upX Y Y.wd cls d s H') := by
    refine ⟨ws, M, Q, _, by rw [← F.hK]; exact S.d, by rw [← F.hK]; exact r, h, fun v H' w M' e d r q => ⟨w, M', e, by rw [F.hK]; exact d, by rw [F.hK]; exact r, q⟩, fun cls d H' fs M' e dk xf w => ?_⟩
    exact ⟨σ, M', fs, S.go e (by rw [F.hK]; exact dk), by rw [F.hK]; exact xf, w⟩
  have z := D.run Y.X.A Y.X.stack sh H ⟨us, []⟩ us vs _ _ F.gd (fun z => by rcases hh with h | h; (rw [h] at z; cases z); exact F.hd h) (F.room.mono hj) e0 bd ru hl
  rw [F.hP, F.hw]
  refine wpAny_call (codeAny_mono z fun res s' hq => ?_)
  rw [← F.hP, ← F.hw] at hq
  cases res with
  | error e => exact passAt F.tk s pins H sh e s' I hq
  | ok fl =>
    cases fl with
    | ret u => exact I.after hq
    | next => exact (show False from hq).elim
    | brk => exact (show False from hq).elim
    | cont => exact (show False from hq).elim
theorem q_call (F : Fm g i k Y) (j : Nat) {m : Nat} {x : Str} {ps : List Str} {sp : SpD} {e : Expr} {es : List Expr} {t : TAd} {p pos : Pos} {hot : Bool} (D : Df g m x ps sp hot) (ha : QA Y (e :: es) t) (hm : m ≤ k := by first | exact Nat.le_refl _ | decide | omega) (hj : i.gls[j]? = some x := by rfl) (hh : hot = true ∨ i.hot = false := by first | exact .inr rfl | exact .inl rfl)
    (he : starEach (e :: es) Y.X.env = (false, eval e Y.X.env) :: starEach es Y.X.env := by rfl) (hpl : (backTo pos (starEach es Y.X.env)).any (·.1) = false := by rfl) : QE Y (.Call (.Name x p) (e :: es) [] pos) (tFn sp Y.wd t) := by
  obtain ⟨h1, h2, h3⟩ := F.glo j x hj
  obtain ⟨f, fd, FD, mgf, kp, hb⟩ := D.ex
  refine ⟨fun s H σ M Q S h pins sh I => ?_⟩
  refine wpAny_Call_Name_kw (ld_glob I h1 (by rw [F.hmg]; exact mgf) ?_ h2)
  refine PySem.W.callWith_K (h₀ := Y.X.base) I.ok.mod.kin (by rw [F.hK]; exact kp) (thn ((ha.run s H σ M _ S h) pos pins sh I) fun us s1 ⟨vs, H1, I1, r, ws, M1, e1, d1, r1, q1⟩ => ⟨I1.kIn, ?_⟩) he hpl
  exact thn (fn_run F FD hh hm hb (S.go e1 d1) r1 q1 I1 r) fun _ _ ⟨v, H2, I2, r2, z⟩ => ⟨v, H2, I2, r2, z.trans e1⟩
/-- nothing is raised -/
def noWd : Value → XF → SD → MH → Prop := fun _ _ _ _ => False
theorem q_callW {wd : Value → XF → SD → MH → Prop} (hw : Y.wd = wd) (F : Fm g i k Y) (j : Nat) {m : Nat} {x : Str} {ps : List Str} {sp : SpD} {e : Expr} {es : List Expr} {t : TAd} {p pos : Pos} {hot : Bool} (D : Df g m x ps sp hot) (ha : QA Y (e :: es) t) (hm : m ≤ k := by first | exact Nat.le_refl _ | decide | omega) (hj : i.gls[j]? = some x := by rfl) (hh : hot = true ∨ i.hot = false := by first | exact .inr rfl | exact .inl rfl)
    (he : starEach (e :: es) Y.X.env = (false, eval e Y.X.env) :: starEach es Y.X.env := by rfl) (hpl : (backTo pos (starEach es Y.X.env)).any (·.1) = false := by rfl) : QE Y (.Call (.Name x p) (e :: es) [] pos) (tFn sp wd t) := by
  subst hw
  exact q_call F j D ha hm hj hh he hpl
theorem q_call0 (F : Fm g i k Y) (j : Nat) {m : Nat} {x : Str} {ps : List Str} {sp : SpD} {p pos : Pos} {hot : Bool} (D : Df g m x ps sp hot) (hm : m ≤ k := by first | exact Nat.le_refl _ | decide | omega) (hj : i.gls[j]? = some x := by rfl) (hh : hot = true ∨ i.hot = false := by first | exact .inr rfl | exact .inl rfl) : QE Y (.Call (.Name x p) [] [] pos) (tFn sp Y.wd tNilA) := by
  obtain ⟨h1, h2, h3⟩ := F.glo j x hj
  obtain ⟨f, fd, FD, mgf, kp, hb⟩ := D.ex
  refine ⟨fun s H σ M Q S h pins sh I => ?_⟩
  refine wpAny_Call_Name_kw (ld_glob I h1 (by rw [F.hmg]; exact mgf) ?_ h2)
  exact PySem.W.callWith_K0 I.kIn (by rw [F.hK]; exact kp) (fn_run F FD hh hm hb S .nil h I .nil)
end
end Dl
set_option Elab.async false
set_option linter.all false
set_option maxRecDepth 100000
namespace Dl
open PySem PySem.Spec PyProof.Rows L2

/-! ### list comprehensions -/
inductive Tg where
  | one (j : Nat)
  | many (js : List Nat)
def Tg.js : Tg → List Nat
  | .one j => [j]
  | .many js => js
def setN : SD → List Nat → List W → SD
  | σ, j :: js, w :: ws => setN (σ.set j (some w)) js ws
  | σ, _, _ => σ
def tgQ (T : Tg) (w : W) (σ : SD) (Q : SD → Prop) : Prop := match T with
  | .one j => Q (σ.set j (some w))
  | .many js => match w with
    | .d (.tuple ds) => ds.length = js.length ∧ Q (setN σ js (ds.map W.d))
    | _ => False
def gNames : List Nat → TGs
  | [] => gNil
  | j :: js => gCons (gName j) (gNames js)
def gV (K : PySem.W.Frag) : Tg → TG
  | .one j => gName j
  | .many js => gTup K js.length (gNames js)
theorem wipe_get (s : L2.St) : ∀ (vs : List Nat) (m : Nat), (L2.wipe s vs)[m]? = if m ∈ vs ∧ m < s.length then some none else s[m]?
  | [], m => by simp [L2.wipe]
  | v :: vs, m => by
    unfold L2.wipe
    have hl := L2.wipe_length s vs
    rw [List.getElem?_set]
    by_cases hv : v = m
    · subst hv
      by_cases hm : v < s.length
      · simp [hl, hm]
      · simp [hl, hm]
    · rw [if_neg hv, wipe_get s vs m]
      have : (m ∈ v :: vs) ↔ m ∈ vs := by
        simp only [List.mem_cons]
        exact ⟨fun z => z.resolve_left (fun e => hv e.symm), .inr⟩
      simp [this]
theorem wipe_wipe_set (s : L2.St) (vs : List Nat) {j : Nat} (h : j ∈ vs) (x : Option V) : L2.wipe (s.set j x) vs = L2.wipe s vs := by
  apply List.ext_getElem?
  intro m
  rw [wipe_get, wipe_get, List.length_set, List.getElem?_set]
  by_cases hm : m ∈ vs ∧ m < s.length
  · rw [if_pos hm, if_pos hm]
  · rw [if_neg hm, if_neg hm]
    by_cases e : j = m
    · subst e
      rw [if_pos rfl]
      have : ¬ j < s.length := fun z => hm ⟨h, z⟩
      simp [this]
    · rw [if_neg e]
theorem wipe_idem (s : L2.St) (vs : List Nat) : L2.wipe (L2.wipe s vs) vs = L2.wipe s vs := by
  apply List.ext_getElem?
  intro m
  rw [wipe_get, wipe_get, L2.wipe_length]
  by_cases hm : m ∈ vs ∧ m < s.length
  · rw [if_pos hm, if_pos hm]
  · rw [if_neg hm, if_neg hm]
structure QTs (Y : Dx) (ifs : List Expr) (t : TTd) : Prop where
  run : ∀ s H σ M Q, Std Y s H σ M → t σ M Q → ∀ pins sh, Inv Y.X pins s H sh →
    wpAny (model Y.X.prog Y.X.w) Y.X.A (forIn ifs true fun c r => if r = true then do let ok ← isTrue c Y.X.env (eval c Y.X.env); pure (ForInStep.yield ok) else pure (ForInStep.yield r)) (TP Y.X pins s (upB Y H M Q)) Y.X.xe sh
def tAll : TTd := fun _ M Q => Q true M
theorem ts_nil {Y : Dx} : QTs Y [] tAll := ⟨fun s H σ M Q S h pins sh I => pts_nil.run pins sh s H _ I ⟨M, .refl _ _, S.d, h⟩⟩
theorem ts_one {Y : Dx} {c : Expr} {t : TTd} (h : QT Y c t) : QTs Y [c] t := ⟨fun s H σ M Q S hq pins sh I => (pts_one pt_sem).run pins sh s H _ I (h.run s H σ M Q S hq)⟩

section
variable {g : Gc} {i : Si} {k : Nat} {Y : Dx}
/-- the block of a comprehension: what it sees of names -/
structure BlOk (i i' : Si) (scope : Scope) (own : List (Str × Nat)) : Prop where
  n : i'.N = i.N
  s : i'.sc = relS scope i.sc
  ok : ScOk i' (relS scope i.sc)
  c : kindOk i'.N scope .cell i'.cel = true
  b : blkC i.N i.sc scope own = true
  h : i'.hot = i.hot
  k : i'.blk = true
theorem Fm.blk (F : Fm g i k Y) {i' : Si} {scope : Scope} {own : List (Str × Nat)} (B : BlOk i i' scope own) (s : Shared) (H : Hp) (C : Addr) (cl : List (Str × Addr)) (fp : List Addr) :
    Fm g i' k { X := Y.X.blk s H scope (compEnvC scope cl C Y.X.env) fp, H0 := Y.H0, M0 := Y.M0, wd := fun _ _ _ _ => False } := by
  have e : (compEnvC scope cl C Y.X.env).scope = relS scope i.sc := by rw [← F.hsc]; rfl
  refine ⟨F.hP, F.hw, F.hK, F.hmg, F.hb, F.N.trans B.n.symm, e.trans B.s.symm, by rw [B.n]; exact F.nd, (fun z => F.calm (B.h ▸ z)), (fun z => F.hd (B.h ▸ z)), F.gd, F.room, (fun z => by rw [B.k] at z; cases z), ?_, ?_, ?_, ?_, F.sy, ?_, PassesOwn.never⟩
  · intro j x h1 h2
    have z := vis_of B.ok.v j x h1 h2
    rw [← e] at z
    exact z
  · intro j x h1 h2
    have z := kind_of B.ok.l j x h1 h2
    rw [← e] at z
    exact z
  · intro j x h1 h2
    have z := kind_of B.ok.c j x h1 h2
    rw [← e] at z
    refine ⟨z, ?_⟩
    have z2 := kind_of B.c j x h1 h2
    show (scope.names.lookup x == some .cell) = true
    rw [z2]
    rfl
  · intro j x h1
    have z := glo_of B.ok.g j x h1
    rw [← e] at z
    exact z
  · rintro u s' ⟨_, _, _, _, _, _, _, _, _, _, _, _, _, _, _, _, _, _, _, _, _, w⟩
    exact (show False from w).elim

/-- what a comprehension's list becomes -/
abbrev Dn := (W → MH → Prop) → Addr → List W → MH → Prop
/-- a datum -/
def dnD : Dn := fun Q D acc M2 => dataQ (fun ds M3 => Q (.d (.list ds)) M3) acc (mdel M2 D)
/-- a list that may change -/
def dnM : Dn := fun Q D _ M2 => Q (.ref D) M2
def DnOk (dn : Dn) : Prop := ∀ (Y : Dx) (Q : W → MH → Prop) (D : Addr) (acc : List W) (H : Hp) (M : MH), Dok Y.X.K H M → M D = some (.lst acc) → dn Q D acc M → up Y H M Q (.ref D) H
theorem dnD_ok : DnOk dnD := by
  intro Y Q D acc H M d hm h
  obtain ⟨ds, hds, qd⟩ := dataQ_get h
  subst hds
  refine ⟨.d (.list ds), mdel M D, ext_less mdel_less, dok_less d mdel_less, ?_, qd⟩
  obtain ⟨xs, hx, rx⟩ := d _ _ hm
  exact Fz.lst ⟨hx, mdel_same⟩ (FzA.ext (ext_less mdel_less) ds xs (FzA.of_wv rx))
theorem dnM_ok : DnOk dnM := fun Y Q D acc H M d hm h => ⟨.ref D, M, .refl _ _, d, rfl, h⟩
def tLcX (dn : Dn) (ti : TId) (T : Tg) (tt : TTd) (te : TEd) (vs : List Nat) : TEd := fun σ M Q => ti σ M fun ws kc M1 => ∀ D, M1 D = none → ∃ I : Nat → List W → MH → Prop, I 0 [] (mset M1 D (.lst [])) ∧
  (∀ j acc M2, I j acc M2 → kc M2 ∧ M2 D = some (.lst acc)) ∧
  (∀ j w acc M2, ws[j]? = some w → I j acc M2 → tgQ T w (wipeD σ vs) fun σ2 => tt σ2 M2 fun b M4 => if b = true then te σ2 M4 fun x M5 => M5 D = some (.lst acc) ∧ acc.length < sizeLine ∧ I (j + 1) (acc ++ [x]) (mset M5 D (.lst (acc ++ [x]))) else I (j + 1) acc M4) ∧
  (∀ acc M2, I ws.length acc M2 → dn Q D acc M2)
def tLcD (ti : TId) (T : Tg) (tt : TTd) (te : TEd) (vs : List Nat) : TEd := fun σ M Q => ti σ M fun ws kc M1 => ∀ D, M1 D = none → ∃ I : Nat → List W → MH → Prop, I 0 [] (mset M1 D (.lst [])) ∧
  (∀ j acc M2, I j acc M2 → kc M2 ∧ M2 D = some (.lst acc)) ∧
  (∀ j w acc M2, ws[j]? = some w → I j acc M2 → tgQ T w (wipeD σ vs) fun σ2 => tt σ2 M2 fun b M4 => if b = true then te σ2 M4 fun x M5 => M5 D = some (.lst acc) ∧ acc.length < sizeLine ∧ I (j + 1) (acc ++ [x]) (mset M5 D (.lst (acc ++ [x]))) else I (j + 1) acc M4) ∧
  (∀ acc M2, I ws.length acc M2 → dataQ (fun ds M3 => Q (.d (.list ds)) M3) acc (mdel M2 D))
def tLcM (ti : TId) (T : Tg) (tt : TTd) (te : TEd) (vs : List Nat) : TEd := fun σ M Q => ti σ M fun ws kc M1 => ∀ D, M1 D = none → ∃ I : Nat → List W → MH → Prop, I 0 [] (mset M1 D (.lst [])) ∧
  (∀ j acc M2, I j acc M2 → kc M2 ∧ M2 D = some (.lst acc)) ∧
  (∀ j w acc M2, ws[j]? = some w → I j acc M2 → tgQ T w (wipeD σ vs) fun σ2 => tt σ2 M2 fun b M4 => if b = true then te σ2 M4 fun x M5 => M5 D = some (.lst acc) ∧ acc.length < sizeLine ∧ I (j + 1) (acc ++ [x]) (mset M5 D (.lst (acc ++ [x]))) else I (j + 1) acc M4) ∧
  (∀ acc M2, I ws.length acc M2 → Q (.ref D) M2)
theorem gNames_run {K : PySem.W.Frag} {H : Hp} {M : MH} (vs : List Nat) {s0 : L2.St} : ∀ (js : List Nat) (xs : List V) (ds : List PyData) (s : L2.St) (σ : SD) (Q : L2.St → Hp → Prop), (∀ j ∈ js, j ∈ vs) → ds.length = js.length → FzA K H M xs ds → Slots K H M s σ → L2.wipe s vs = L2.wipe s0 vs →
    (∀ s', Slots K H M s' (setN σ js (ds.map W.d)) → L2.wipe s' vs = L2.wipe s0 vs → Q s' H) → gNames js xs s H Q
  | [], xs, ds, s, σ, Q, _, hl, ha, hs, hw, k => by
    cases ds with
    | cons _ _ => cases hl
    | nil =>
      cases ha
      exact ⟨rfl, k s hs hw⟩
  | j :: js, xs, ds, s, σ, Q, hj, hl, ha, hs, hw, k => by
    cases ds with
    | nil => cases hl
    | cons d ds =>
      cases ha with
      | cons h1 h2 =>
        refine ⟨_, _, rfl, ?_⟩
        exact gNames_run vs js _ ds _ _ Q (fun m hm => hj m (List.mem_cons_of_mem _ hm)) (by simpa using hl) h2 (Slots.set (w := .d d) h1 j hs) (by rw [wipe_wipe_set _ _ (hj j List.mem_cons_self)]; exact hw) k
theorem lc_l2 {dn : Dn} (hdn : DnOk dn) (F : Fm g i k Y) (i' : Si) (T : Tg) {elt tg iter : Expr} {ifs : List Expr} {scope : Scope} {own : List (Str × Nat)} {ti : TId} {tt : TTd} {te : TEd} (B : BlOk i i' scope own) (hT : ∀ j ∈ T.js, j ∈ own.map (·.2)) (hi : QI Y tg iter ti)
    (hb : ∀ Y' : Dx, Fm g i' k Y' → Y'.wd = noWd → PG Y'.X tg (gV Y'.X.K T) ∧ QTs Y' ifs tt ∧ QE Y' elt te) :
    ∃ (tF : TT) (eF : TE), (∀ (s : Shared) (H : Hp) (C : Addr) (cl : List (Str × Addr)) (fp : List Addr), PG (Y.X.blk s H scope (compEnvC scope cl C Y.X.env) fp) tg (gV Y.X.K T)) ∧ (∀ (s : Shared) (H : Hp) (C : Addr) (cl : List (Str × Addr)) (fp : List Addr), PTs (Y.X.blk s H scope (compEnvC scope cl C Y.X.env) fp) ifs tF) ∧
      (∀ (s : Shared) (H : Hp) (C : Addr) (cl : List (Str × Addr)) (fp : List Addr), PE (Y.X.blk s H scope (compEnvC scope cl C Y.X.env) fp) elt eF) ∧
      ∀ s H σ M Q (R : VK), Std Y s H σ M → tLcX dn ti T tt te (own.map (·.2)) σ M Q → (∀ v H', up Y H M Q v H' → R v H') → tLc (semIt Y.X tg iter) (gV Y.X.K T) tF eF (own.map (·.2)) s H R := by
  have hblk : ∀ (s : Shared) (H : Hp) (C : Addr) (cl : List (Str × Addr)) (fp : List Addr), ∃ Y' : Dx, Y'.X = Y.X.blk s H scope (compEnvC scope cl C Y.X.env) fp ∧ Y'.H0 = Y.H0 ∧ Y'.M0 = Y.M0 ∧ PG Y'.X tg (gV Y'.X.K T) ∧ QTs Y' ifs tt ∧ QE Y' elt te := fun s H C cl fp =>
    ⟨{ X := Y.X.blk s H scope (compEnvC scope cl C Y.X.env) fp, H0 := Y.H0, M0 := Y.M0, wd := fun _ _ _ _ => False }, rfl, rfl, rfl, hb _ (F.blk B s H C cl fp) rfl⟩
  -- what a block's parts come to, whatever the block
  let tF : TT := fun s H Q => ∀ s0 H0 C cl fp pins sh, Inv (Y.X.blk s0 H0 scope (compEnvC scope cl C Y.X.env) fp) pins s H sh →
    wpAny (model Y.X.prog Y.X.w) Y.X.A (forIn ifs true fun c r => if r = true then do let ok ← isTrue c (compEnvC scope cl C Y.X.env) (eval c (compEnvC scope cl C Y.X.env)); pure (ForInStep.yield ok) else pure (ForInStep.yield r)) (TP (Y.X.blk s0 H0 scope (compEnvC scope cl C Y.X.env) fp) pins s Q) (fun _ _ => False) sh
  let eF : TE := fun s H Q => ∀ s0 H0 C cl fp, semE (Y.X.blk s0 H0 scope (compEnvC scope cl C Y.X.env) fp) elt s H Q
  refine ⟨tF, eF, ?_, ?_, ?_, fun s H σ M Q R S h kR => ?_⟩
  · intro s0 H0 C cl fp
    obtain ⟨Y', hX, _, _, h1, _⟩ := hblk s0 H0 C cl fp
    have hK : Y'.X.K = Y.X.K := by rw [hX]
    rw [← hX, ← hK]
    exact h1
  · intro s0 H0 C cl fp
    exact ⟨fun pins sh s H Q I h => h s0 H0 C cl fp pins sh I⟩
  · intro s0 H0 C cl fp
    exact ⟨fun pins sh s H Q I h => h s0 H0 C cl fp pins sh I⟩
  · intro pins sh I0
    refine thn ((hi.run s H σ M _ S h) pins sh I0) fun v s1 hv => thn hv fun it s2 ⟨ad, fp0, tn, J, H1, e1, e2, e3, e4, e5, ws, kc, M1, e, d, jl, q⟩ => ?_
    refine ⟨ad, fp0, tn, J, H1, e1, e2, e3, e4, e5, fun D nD => ?_⟩
    have mD := d.free nD
    obtain ⟨I, i0, ikc, step, done⟩ := q D mD
    have X1 : Ext H1 M1 (upd H1 D (.lst [])) (mset M1 D (.lst [])) := ext_mut (.inr nD)
    have d1 : Dok Y.X.K (upd H1 D (.lst [])) (mset M1 D (.lst [])) := dok_mut (u := .lst []) d (.inr nD) fun _ => ⟨[], upd_same, .nil⟩
    have S1 : Std Y s (upd H1 D (.lst [])) σ (mset M1 D (.lst [])) := (S.go e d).go X1 d1
    refine ⟨fun j m H' => m = ws.length - j ∧ j ≤ ws.length ∧ ∃ acc M', Ext (upd H1 D (.lst [])) (mset M1 D (.lst [])) H' M' ∧ Dok Y.X.K H' M' ∧ I j acc M', ⟨ws.length, by simp, Nat.zero_le _, [], _, .refl _ _, d1, i0⟩, ?_⟩
    rintro j m H3 ⟨rfl, hj, acc, M3, x3, d3, q3⟩
    obtain ⟨kc3, mD3⟩ := ikc _ _ _ q3
    obtain ⟨hgo, hstop⟩ := jl H3 M3 (X1.trans x3) d3 kc3
    by_cases hlt : j < ws.length
    · obtain ⟨hg1, hg2⟩ := hgo j ws[j] (by simp [hlt])
      refine .inr ⟨hg1, fun H' => ∃ acc M', Ext (upd H1 D (.lst [])) (mset M1 D (.lst [])) H' M' ∧ Dok Y.X.K H' M' ∧ I (j + 1) acc M', fun H4 z => ⟨ws.length - (j + 1), by omega, rfl, hlt, z⟩, fun x H4 hy => ?_⟩
      obtain ⟨x4, d4, r4⟩ := hg2 x H4 hy
      have q5 := step j ws[j] acc M3 (by simp [hlt]) q3
      have S4 : Slots Y.X.K H4 M3 (L2.wipe s (own.map (·.2))) (wipeD σ (own.map (·.2))) := ((S1.s.ext x3).ext x4).wipe _
      -- behind the target
      have fin : ∀ s5 σ5, Slots Y.X.K H4 M3 s5 σ5 → L2.wipe s5 (own.map (·.2)) = L2.wipe s (own.map (·.2)) → (tt σ5 M3 fun b M4 => if b = true then te σ5 M4 fun x M5 => M5 D = some (.lst acc) ∧ acc.length < sizeLine ∧ I (j + 1) (acc ++ [x]) (mset M5 D (.lst (acc ++ [x]))) else I (j + 1) acc M4) →
          L2.wipe s5 (own.map (·.2)) = L2.wipe s (own.map (·.2)) ∧ tF s5 H4 fun b H5 => if b = true then eF s5 H5 fun y H6 => ∃ acc, H6 D = some (.lst acc) ∧ acc.length < sizeLine ∧ ∃ acc' M', Ext (upd H1 D (.lst [])) (mset M1 D (.lst [])) (upd H6 D (.lst (acc ++ [y]))) M' ∧ Dok Y.X.K (upd H6 D (.lst (acc ++ [y]))) M' ∧ I (j + 1) acc' M'
            else ∃ acc M', Ext (upd H1 D (.lst [])) (mset M1 D (.lst [])) H5 M' ∧ Dok Y.X.K H5 M' ∧ I (j + 1) acc M' := by
        intro s5 σ5 S5 hw5 q6
        refine ⟨hw5, fun s0 H0 C cl fp pins sh I5 => ?_⟩
        obtain ⟨Y', hX, hH0, hM0, _, ht, _⟩ := hblk s0 H0 C cl fp
        have hK : Y'.X.K = Y.X.K := by rw [hX]
        have Sd : Std Y' s5 H4 σ5 M3 := ⟨by rw [hH0, hM0]; exact ((S1.e.trans x3).trans x4), by rw [hK]; exact d4, by rw [hK]; exact S5⟩
        have z := ht.run s5 H4 σ5 M3 _ Sd q6 pins sh (by rw [hX]; exact I5)
        rw [hX] at z
        refine thn z fun b s6 ⟨H5, I6, M4, x5, d5, q7⟩ => ⟨H5, I6, ?_⟩
        have d5' : Dok Y.X.K H5 M4 := by have := d5; rw [hX] at this; exact this
        cases b with
        | false =>
          rw [if_neg Bool.false_ne_true] at q7
          exact iteF ⟨acc, M4, (x3.trans x4).trans x5, d5', q7⟩
        | true =>
          rw [if_pos rfl] at q7
          refine iteT fun s0 H0 C cl fp => ?_
          obtain ⟨Y2, hX2, hH2, hM2, _, _, he⟩ := hblk s0 H0 C cl fp
          have hK2 : Y2.X.K = Y.X.K := by rw [hX2]
          have Sd2 : Std Y2 s5 H5 σ5 M4 := ⟨by rw [hH2, hM2]; exact ((S1.e.trans x3).trans x4).trans x5, by rw [hK2]; exact d5', by rw [hK2]; exact S5.ext x5⟩
          have z2 := he.run s5 H5 σ5 M4 _ Sd2 q7
          rw [hX2] at z2
          refine semE_mono z2 fun y H6 ⟨w, M5, x6, d6, r6, mD5, hz, q8⟩ => ?_
          have d6' : Dok Y.X.K H6 M5 := by have := d6; rw [hX2] at this; exact this
          have r6' : Wv Y.X.K H6 M5 y w := by have := r6; rw [hX2] at this; exact this
          obtain ⟨xs, hx, rx⟩ := d6' _ _ mD5
          have nn : M5 D ≠ none := by rw [mD5]; exact fun z => by cases z
          have X7 : Ext H6 M5 (upd H6 D (.lst (xs ++ [y]))) (mset M5 D (.lst (acc ++ [w]))) := ext_mut (.inl nn)
          refine ⟨xs, hx, by rw [Paired.length rx]; exact hz, acc ++ [w], _, (((x3.trans x4).trans x5).trans x6).trans X7, ?_, q8⟩
          refine dok_mut (u := .lst (acc ++ [w])) d6' (.inl nn) fun e => ⟨xs ++ [y], upd_same, ?_⟩
          have app : ∀ {xs : List V} {ws : List W}, WvA Y.X.K H6 M5 xs ws → WvA Y.X.K H6 M5 (xs ++ [y]) (ws ++ [w]) := by
            intro xs ws h
            induction h with
            | nil => exact .cons r6' .nil
            | cons r t ih => exact .cons r ih
          exact WvA.ext e (app rx)
      cases T with
      | one jt =>
        have q5' : tt ((wipeD σ (own.map (·.2))).set jt (some ws[j])) M3 _ := q5
        exact fin _ _ (S4.set r4 jt) (by rw [wipe_wipe_set _ _ (hT jt (by simp [Tg.js])), wipe_idem]) q5'
      | many js =>
        unfold tgQ at q5
        simp only at q5
        split at q5
        · rename_i ds hd
          rw [hd] at r4
          obtain ⟨p, xs, rfl, h1, h2⟩ := r4.tup
          refine ⟨p, xs, rfl, h1.sq, by rw [h2.length]; exact q5.1, ?_⟩
          exact gNames_run (own.map (fun x => x.2)) (s0 := s) js xs ds _ _ _ (fun m hm => hT m hm) q5.1 h2 S4 (wipe_idem _ _) fun s5 S5 hw5 => fin s5 _ S5 hw5 q5.2
        · exact q5.elim
    · have hj' : j = ws.length := by omega
      subst hj'
      exact .inl ⟨hstop, kR _ _ ((hdn Y Q D acc H3 M3 d3 mD3 (done _ _ q3)).trans ((e.trans X1).trans x3))⟩
theorem q_lc (F : Fm g i k Y) (i' : Si) (T : Tg) {elt tg iter : Expr} {ifs : List Expr} {scope : Scope} {own : List (Str × Nat)} {pos : Pos} {ti : TId} {tt : TTd} {te : TEd} (B : BlOk i i' scope own) (hT : ∀ j ∈ T.js, j ∈ own.map (·.2)) (hi : QI Y tg iter ti)
    (hb : ∀ Y' : Dx, Fm g i' k Y' → Y'.wd = noWd → PG Y'.X tg (gV Y'.X.K T) ∧ QTs Y' ifs tt ∧ QE Y' elt te) (hs : ∀ x, foldedSetIterable iter Y.X.env x = pure x := by intro _; rfl) (hc : i.hot = false := by rfl) :
    QE Y (.ListComp elt [⟨tg, iter, ifs, 0⟩] scope pos) (tLcD ti T tt te (own.map (·.2))) := by
  obtain ⟨tF, eF, h1, h2, h3, h4⟩ := lc_l2 dnD_ok F i' T B hT hi hb
  exact ⟨fun s H σ M Q S h => semE_of (pe_lc (own := own) (wi := semIt Y.X tg iter) (g := gV Y.X.K T) (tt := tF) (te := eF) (F.calm hc) (by rw [F.N]; exact F.nd) pi_sem (by rw [F.N, F.hsc]; exact blkOk_by B.b) h1 h2 h3 hs) (h4 s H σ M Q _ S h fun _ _ z => z)⟩
theorem q_lcM (F : Fm g i k Y) (i' : Si) (T : Tg) {elt tg iter : Expr} {ifs : List Expr} {scope : Scope} {own : List (Str × Nat)} {pos : Pos} {ti : TId} {tt : TTd} {te : TEd} (B : BlOk i i' scope own) (hT : ∀ j ∈ T.js, j ∈ own.map (·.2)) (hi : QI Y tg iter ti)
    (hb : ∀ Y' : Dx, Fm g i' k Y' → Y'.wd = noWd → PG Y'.X tg (gV Y'.X.K T) ∧ QTs Y' ifs tt ∧ QE Y' elt te) (hs : ∀ x, foldedSetIterable iter Y.X.env x = pure x := by intro _; rfl) (hc : i.hot = false := by rfl) :
    QE Y (.ListComp elt [⟨tg, iter, ifs, 0⟩] scope pos) (tLcM ti T tt te (own.map (·.2))) := by
  obtain ⟨tF, eF, h1, h2, h3, h4⟩ := lc_l2 dnM_ok F i' T B hT hi hb
  exact ⟨fun s H σ M Q S h => semE_of (pe_lc (own := own) (wi := semIt Y.X tg iter) (g := gV Y.X.K T) (tt := tF) (te := eF) (F.calm hc) (by rw [F.N]; exact F.nd) pi_sem (by rw [F.N, F.hsc]; exact blkOk_by B.b) h1 h2 h3 hs) (h4 s H σ M Q _ S h fun _ _ z => z)⟩
/-- name = [..] on one line, the name a local -/
theorem s_setlc (F : Fm g i k Y) (m : Nat) (i' : Si) (T : Tg) {y : Str} {py spos : Pos} {elt tg iter : Expr} {ifs : List Expr} {scope : Scope} {own : List (Str × Nat)} {pos : Pos} {ti : TId} {tt : TTd} {te : TEd} (B : BlOk i i' scope own) (hT : ∀ j ∈ T.js, j ∈ own.map (·.2)) (hi : QI Y tg iter ti)
    (hb : ∀ Y' : Dx, Fm g i' k Y' → Y'.wd = noWd → PG Y'.X tg (gV Y'.X.K T) ∧ QTs Y' ifs tt ∧ QE Y' elt te) (hs : ∀ x, foldedSetIterable iter Y.X.env x = pure x := by intro _; rfl) (hN : i.N[m]? = some y := by rfl) (hl : i.loc.contains m = true := by rfl)
    (hk : i.sc.kind = .function := by rfl) (hp : (py.line == pos.line) = true := by rfl) (hn : (scope.names.any fun (n, k) => n == y && (k == .local || k == .cell)) = false := by first | rfl | decide +kernel) (hc : i.hot = false := by rfl) :
    QS Y (.Assign [.Name y py] (.ListComp elt [⟨tg, iter, ifs, 0⟩] scope pos) spos) (tAsn (tLcD ti T tt te (own.map (·.2))) (gNam m)) := by
  obtain ⟨tF, eF, h1, h2, h3, h4⟩ := lc_l2 dnD_ok F i' T B hT hi hb
  have lk := F.loc m y hl hN
  refine ⟨fun s H σ M D S h => semS_of (ps_setLc (own := own) (wi := semIt Y.X tg iter) (g := gV Y.X.K T) (tt := tF) (te := eF) (F.calm hc) (by rw [F.N]; exact F.nd) (by rw [F.N]; exact hN) lk (sw_true (by rw [F.hsc]; exact hk) lk hp hn) pi_sem (by rw [F.N, F.hsc]; exact blkOk_by B.b) h1 h2 h3 hs) ?_⟩
  refine h4 s H σ M (fun w M1 => gNam m w σ M1 D.nx) _ S h fun v H' z => ?_
  obtain ⟨w, M', e, d, r, q⟩ := z
  exact ⟨_, _, e, (S.go e d).set r m, q⟩
/-- name = [..] on one line, the name a local -/
theorem s_setlcM (F : Fm g i k Y) (m : Nat) (i' : Si) (T : Tg) {y : Str} {py spos : Pos} {elt tg iter : Expr} {ifs : List Expr} {scope : Scope} {own : List (Str × Nat)} {pos : Pos} {ti : TId} {tt : TTd} {te : TEd} (B : BlOk i i' scope own) (hT : ∀ j ∈ T.js, j ∈ own.map (·.2)) (hi : QI Y tg iter ti)
    (hb : ∀ Y' : Dx, Fm g i' k Y' → Y'.wd = noWd → PG Y'.X tg (gV Y'.X.K T) ∧ QTs Y' ifs tt ∧ QE Y' elt te) (hs : ∀ x, foldedSetIterable iter Y.X.env x = pure x := by intro _; rfl) (hN : i.N[m]? = some y := by rfl) (hl : i.loc.contains m = true := by rfl)
    (hk : i.sc.kind = .function := by rfl) (hp : (py.line == pos.line) = true := by rfl) (hn : (scope.names.any fun (n, k) => n == y && (k == .local || k == .cell)) = false := by first | rfl | decide +kernel) (hc : i.hot = false := by rfl) :
    QS Y (.Assign [.Name y py] (.ListComp elt [⟨tg, iter, ifs, 0⟩] scope pos) spos) (tAsn (tLcM ti T tt te (own.map (·.2))) (gNam m)) := by
  obtain ⟨tF, eF, h1, h2, h3, h4⟩ := lc_l2 dnM_ok F i' T B hT hi hb
  have lk := F.loc m y hl hN
  refine ⟨fun s H σ M D S h => semS_of (ps_setLc (own := own) (wi := semIt Y.X tg iter) (g := gV Y.X.K T) (tt := tF) (te := eF) (F.calm hc) (by rw [F.N]; exact F.nd) (by rw [F.N]; exact hN) lk (sw_true (by rw [F.hsc]; exact hk) lk hp hn) pi_sem (by rw [F.N, F.hsc]; exact blkOk_by B.b) h1 h2 h3 hs) ?_⟩
  refine h4 s H σ M (fun w M1 => gNam m w σ M1 D.nx) _ S h fun v H' z => ?_
  obtain ⟨w, M', e, d, r, q⟩ := z
  exact ⟨_, _, e, (S.go e d).set r m, q⟩
end
end Dl
set_option Elab.async false
set_option linter.all false
set_option maxRecDepth 100000
namespace Dl
open PySem PySem.Spec PyProof.Rows L2

/-! ### the law's own call -/
def spLaw : SpD := fun ws _ Q _ => ∃ ns : List Int, ws = [.scr (ns.map PyData.int)] ∧ ns.length ≤ 63 ∧ ∀ M', Q (.d (.bool true)) M'
theorem fza_ints {K : PySem.W.Frag} {H : Hp} {M : MH} : ∀ ns : List Int, FzA K H M (ns.map V.int) (ns.map PyData.int)
  | [] => .nil
  | n :: ns => .cons (.int n) (fza_ints ns)
theorem cx_false {P : Program} {w : World} {outer : List Env} {H : Hp} {s : Shared} {e : Value} {s' : Shared} (h : L2.CX P w outer H s (fun _ _ _ => False) e s') : False := by
  obtain ⟨_, _, _, _, _, _, _, _, _, _, _, _, z⟩ := h
  exact z
/-- from a heap in which the script alone is tracked, if at all -/
theorem law_from {P : Program} {w : World} {K : PySem.W.Frag} {mg mb : Str → Option Value} {k : Nat} {fa a : Addr} {fd : FuncData} {x : Str} {t : Shared} {vs : List Value} {ns : List Int}
    (F : ∀ base : Heap, K.In base → base.Ns mainGlobals mg → SysOk base → FnG ⟨P, w, K, mg, base⟩ k fa fd [x] spLaw) (hb : ∀ (s : Shared) (u : Value), BindsTo s fd ⟨[u], []⟩ [(x, u)]) (hr : Room k callerA)
    (KX : K.In t.heap) (hg : t.heap.Ns mainGlobals mg) (hbl : t.heap.Ns builtinsNs mb) (hbb : ∀ x : Str, x ≠ "__name__" → mb x = bootBuiltins x) (hlim : t.heap.NoLimit) (hsys : ∃ mm, t.heap.Ns sysModules mm) (hgen : t.gens = #[])
    (ha : t.heap.get? a = some { cls := .type "list", data := .seq vs.toArray }) (hl : ns.length ≤ 63)
    (H : Hp) (hS : FS K H (fun _ => none) a (ns.map V.int)) (hok : HOk P w H t.heap) (only : ∀ b u, H b = some u → b = a ∧ ∃ o xs, u = .frz o (.lst xs)) (apart : H a ≠ none → K.lookup a = none) :
    codeAny (model P w) callerA (.call (.ref fa) ⟨[.ref a], []⟩) (fun r s' => r = .ok (.ret (.bool true)) ∧ OldK t.heap s'.heap ∧ s'.os = t.os ∧ AllBare s'.gens) t := by
  have stays : ∀ b o, t.heap.get? b = some o → H b = none → (hidT t.heap H).get? b = some o := fun b o e n => hidT_get e n
  have dictFree : ∀ b o es n, t.heap.get? b = some o → o.data = .dict es n → H b = none := fun b o es n e d => by
    cases q : H b with
    | none => rfl
    | some u =>
      have hba := (only b u q).1
      rw [hba, ha] at e
      cases e
      cases d
  have nsStays : ∀ b m, t.heap.Ns b m → (hidT t.heap H).Ns b m := fun b m ⟨o, es, ep, e, d, r⟩ => ⟨o, es, ep, stays b o e (dictFree b o es ep e d), d, r⟩
  have inBase : K.In (hidT t.heap H) := fun b o e => stays b o (KX b o e) (by
    cases q : H b with
    | none => rfl
    | some u =>
      have hba := (only b u q).1
      rw [hba] at q e
      rw [apart (by rw [q]; exact fun z => by cases z)] at e
      cases e)
  have hmod : Mod K mg (hidT t.heap H) := ⟨inBase, nsStays _ _ hg, ⟨mb, nsStays _ _ hbl, hbb⟩, by
    obtain ⟨mc, z1, z2⟩ := hlim
    exact ⟨mc, nsStays _ _ z1, z2⟩⟩
  have hsy : SysOk (hidT t.heap H) := by
    obtain ⟨mm, z⟩ := hsys
    obtain ⟨o, es, ep, e, d, _⟩ := nsStays _ _ z
    exact ⟨o, es, ep, e, d⟩
  have env : Env0 P w K mg (hidT t.heap H) callerA [] t H := by
    refine ⟨rfl, hmod, fun b o e => of_hidT e, Nat.le_of_eq (hidT_size _ _), trivial, ?_, hok, AllBare.of_eq hgen⟩
    intro b hb
    have : b ∈ ([] : List Addr) := hb
    cases this
  have lifted : lift K spLaw [.ref a] H (fun v _ => v = .bl true) (fun _ _ _ => False) := by
    refine ⟨[.scr (ns.map PyData.int)], fun _ => none, fun u _ => u = .d (.bool true), fun _ _ _ => False, fun b o e => (by cases e), .cons ⟨a, _, rfl, hS, fza_ints ns⟩ .nil, ⟨ns, rfl, hl, fun _ => rfl⟩, ?_, fun _ _ _ _ _ _ _ _ z => z⟩
    intro v H' u M' _ _ r e
    subst e
    exact r.bool
  have run := (F _ inBase (nsStays _ _ hg) hsy).run callerA [] t H ⟨[.ref a], []⟩ [.ref a] [.ref a] _ _ rfl (fun _ => hr.hd) ⟨hr.dp, hr.un⟩ env (hb t (.ref a)) (.cons rfl .nil) lifted
  refine codeAny_mono run fun r s' h => ?_
  cases r with
  | error e => exact (cx_false (show L2.CX P w [] H t _ e s' from h)).elim
  | ok fl =>
    cases fl with
    | ret u =>
      obtain ⟨v, H', os, bare, un, hok', rv, hv⟩ := h
      have hv' : v = .bl true := hv
      rw [hv'] at rv
      have hu : u = Value.bool true := rv
      refine ⟨by rw [hu], ?_, os, bare⟩
      refine OldK.of_keep fun b o e => ?_
      cases q : H b with
      | none =>
        refine un.keep b o e q (fun z => ?_) (by simp)
        have : b ∈ ([] : List Addr) := z
        cases this
      | some u' =>
        obtain ⟨_, ob, xs, hu'⟩ := only b u' q
        rw [hu'] at q
        have e1 := (hok b _ q).1
        have e2 := (hok' b _ (un.frzs b ob _ q)).1
        rw [e] at e1
        rw [e2, ← e1]
    | next => exact (show False from h).elim
    | brk => exact (show False from h).elim
    | cont => exact (show False from h).elim

theorem law_walk {l : PySem.W.OpenLaw} {k : Nat} {q : Program} {loose : List Str} {XP : (Str → Option Value) → Heap → Prop} {YP : World → Heap → Prop} {d : DefRec} {K : Params → PySem.W.Frag} {x : Str}
    (hn : l.most = some 63) (hdf : d.params.defaults = []) (hr : Room k callerA) (hq : importsNone q = true) (hY : ∀ (w : World) (h : Heap), YP w h → (K w.params).In h)
    (F : ∀ (w : World) (mg : Str → Option Value) (fa : Addr) (h : Heap), (K w.params).In h → h.Ns mainGlobals mg → mg d.name = some (.ref fa) →
      ∃ fd : FuncData, (∀ (s : Shared) (u : Value), BindsTo s fd ⟨[u], []⟩ [(x, u)]) ∧ ∀ base : Heap, (K w.params).In base → base.Ns mainGlobals mg → SysOk base → FnG ⟨l.prog, w, K w.params, mg, base⟩ k fa fd [x] spLaw) :
    PySem.W.WalkO q loose XP YP l.row.toRowW d [] (fun f vs => PySem.call f vs) := by
  refine Att.attach_call hn hdf ?_
  intro w s₀ t mg mb fa o pm cd doc a vs ns G YY ho hd hcd hmg hobj hints hlen hgen
  have KX := hY w _ YY
  obtain ⟨fd, hb, hF⟩ := F w mg fa _ KX G.T.g hmg
  have rv := vals_ints hints
  have hsys : ∃ mm, t.heap.Ns sysModules mm := by
    have z := G.T.seer hq
    obtain ⟨mm, z1, _⟩ := z.mods
    exact ⟨mm, z1⟩
  have lenV : vs.length = ns.length := by rw [← rv.length, List.length_map]
  have small : ns.length ≤ sizeLine := by rw [sizeLine_eq]; omega
  have core := fun H => law_from (mb := mb) (vs := vs) (ns := ns) (a := a) hF hb hr KX G.T.g G.T.b G.T.builtins G.T.nolimit hsys hgen hobj hlen H
  cases hk : (K w.params).lookup a with
  | some ob =>
    have e := KX a ob hk
    rw [hobj] at e
    cases e
    refine core (fun _ => none) (Or.inr (Or.inr ⟨_, vs.toArray, _, hk, rfl, rfl, rfl, ?_, ?_⟩)) (fun b u z => by cases z) (fun b u z => by cases z) (fun z => absurd rfl z)
    · rw [List.size_toArray, lenV]; exact small
    · simpa using rv
  | none =>
    refine core (fun b => if b = a then some (.frz { cls := .type "list", data := .seq vs.toArray } (.lst (ns.map V.int))) else none) (Or.inl ⟨Or.inr ⟨_, if_pos rfl⟩, rfl⟩) ?_ ?_ (fun _ => hk)
    · intro b u z
      try dsimp only at z
      by_cases e : b = a
      · subst e
        rw [if_pos rfl] at z
        cases z
        exact ⟨hobj, ⟨by rw [List.length_map]; exact small, vs, _, rv, hobj⟩⟩
      · rw [if_neg e] at z
        cases z
    · intro b u z
      try dsimp only at z
      by_cases e : b = a
      · subst e
        rw [if_pos rfl] at z
        cases z
        exact ⟨rfl, _, _, rfl⟩
      · rw [if_neg e] at z
        cases z
end Dl
set_option Elab.async false
set_option linter.all false
set_option maxRecDepth 100000
namespace Dl
open PySem PySem.Spec PyProof.Rows L2

/-! ### the text's facts -/
structure Pl (g : Gc) (x : Str) (st : Stmt) : Prop where
  ex : ∃ f fd, Fun g.K x x st f fd ∧ g.mg x = some (.ref f)
structure Cst (g : Gc) (x : Str) (d : PyData) : Prop where
  ex : ∃ v u, g.mg x = some u ∧ RelV v u ∧ ∀ H M, Fz g.K H M v d
theorem df_of {g : Gc} {i : Si} {k : Nat} {x : Str} {st : Stmt} {ps : List Str} {sp : SpD} (P : Pl g x st) (hsy : SysOk g.base) (Sc : FnScope i.N ps (defScope st)) (ok : ScOk i (defScope st))
    (hb : ∀ (kV doc pm : Value) (an : Option Addr) (cdv ct : Value) (us : List Value), us.length = ps.length → bindArgs (PySem.W.fnOf x x (defArgs st) (defBody st) (defScope st) .none kV doc pm an cdv ct) ⟨us, []⟩ = pure (ps.zip us))
    (len : ∀ ws M Q E, sp ws M Q E → ws.length = ps.length)
    (body : ∀ (Y : Dx) (ws : List W) (M : MH) (Q : W → MH → Prop) (E : XD), Fm g i k Y → Y.wd = (fun cls fs _ M' => E cls fs M') → sp ws M Q E → ∃ t, QSs Y (defBody st) t ∧ t { nx := fun _ M' => Q (.d .none) M', rt := Q } (startD i.N ws) M) : Df g (k + 1) x ps sp i.hot := by
  obtain ⟨f, fd, F, m⟩ := P.ex
  exact ⟨f, fd, fng_of F Sc ok hsy len body, m, F.kp, F.binds hb⟩
section
variable {g : Gc} {i : Si} {k : Nat} {Y : Dx}
theorem q_cst (F : Fm g i k Y) (j : Nat) {x : Str} {pos : Pos} {d : PyData} (C : Cst g x d) (hj : i.gls[j]? = some x := by rfl) : QE Y (.Name x pos) (tK d) := by
  obtain ⟨v, u, h1, h2, h3⟩ := C.ex
  exact q_glob F j h1 h2 h3 hj
theorem pgN (F : Fm g i k Y) (j : Nat) {x : Str} {pos : Pos} (hN : i.N[j]? = some x := by rfl) (hl : i.loc.contains j = true := by rfl) : PG Y.X (.Name x pos) (gV Y.X.K (.one j)) :=
  pg_name (i := j) (by rw [F.N]; exact F.nd) (by rw [F.N]; exact hN) (.inl (F.loc j x hl hN)) (.inr (F.loc j x hl hN))
theorem pgNc (F : Fm g i k Y) (j : Nat) {x : Str} {pos : Pos} (hN : i.N[j]? = some x := by rfl) (hl : i.cel.contains j = true := by rfl) : PG Y.X (.Name x pos) (gV Y.X.K (.one j)) :=
  pg_name (i := j) (by rw [F.N]; exact F.nd) (by rw [F.N]; exact hN) (.inr (F.cel j x hl hN).1) (.inl (F.cel j x hl hN).2)
theorem pgsN0 {Y : Dx} : PGs Y.X [] (gNames []) := pgs_nil
theorem pgsN (F : Fm g i k Y) (j : Nat) {x : Str} {pos : Pos} {es : List Expr} {js : List Nat} (h : PGs Y.X es (gNames js)) (hN : i.N[j]? = some x := by rfl) (hl : i.loc.contains j = true := by rfl)
    (hs : (assignEach (.Name x pos :: es) Y.X.env).map (·.2) = assign (.Name x pos) Y.X.env :: (assignEach es Y.X.env).map (·.2) := by rfl) : PGs Y.X (.Name x pos :: es) (gNames (j :: js)) := pgs_cons (pgN F j hN hl) h hs
theorem pgT (F : Fm g i k Y) {es : List Expr} {js : List Nat} {kk : Nat} {pos : Pos} (h : PGs Y.X es (gNames js)) (hn : (assignEach es Y.X.env).length = js.length := by rfl) (hst : (assignEach es Y.X.env).findIdx? (·.1) = none := by rfl) (hc : i.hot = false := by rfl) : PG Y.X (.Tuple es kk pos) (gV Y.X.K (.many js)) := pg_tup (F.calm hc) h hn hst
/-- -x -/
def tNeg (t : TEd) : TEd := fun σ M Q => t σ M fun w M1 => match w with | .d (.int n) => Q (.d (.int (-n))) M1 | _ => False
theorem q_neg {e : Expr} {t : TEd} {pos : Pos} (he : QE Y e t) : QE Y (.UnaryOp .USub e pos) (tNeg t) := by
  refine ⟨fun s H σ M Q S h => semE_of (pe_un un_neg pe_sem) (he.then_ S h fun v H1 w M1 e d r q => ?_)⟩
  split at q
  · exact ⟨_, r.int, ((S.go e d).here (wInt _) q).trans e⟩
  · exact q.elim
/-- {} as a datum -/
def tDct0 : TEd := fun _ M Q => Q (.d (.dict [])) M
theorem q_dct0 {pos : Pos} : QE Y (.Dict [] [] pos) tDct0 := by
  refine ⟨fun s H σ M Q S h => semE_of pe_dnewK fun p n => ?_⟩
  exact std_new S n (fun e m => Fz.dK upd_same m .nil) h
/-- a fresh list that is kept as a datum -/
def tFrz (t : TEd) : TEd := fun σ M Q => t σ M fun w M1 => match w with
  | .ref p => ∃ ws, M1 p = some (.lst ws) ∧ dataQ (fun ds M2 => Q (.d (.list ds)) M2) ws (mdel M1 p)
  | w => Q w M1
theorem q_frz {e : Expr} {t : TEd} (he : QE Y e t) : QE Y e (tFrz t) := by
  refine ⟨fun s H σ M Q S h => he.then_ S h fun v H1 w M1 e d r q => ?_⟩
  cases w with
  | d x => exact ⟨_, M1, e, d, r, q⟩
  | scr xs => exact ⟨_, M1, e, d, r, q⟩
  | ref p =>
    obtain ⟨ws, hm, q1⟩ := q
    obtain ⟨ds, hds, q2⟩ := dataQ_get q1
    subst hds
    obtain rfl := (show v = _ from r)
    obtain ⟨xs, h1, h2⟩ := d _ _ hm
    exact ⟨.d (.list ds), mdel M1 p, e.trans (ext_less mdel_less), dok_less d mdel_less, Fz.lst ⟨h1, mdel_same⟩ (FzA.ext (ext_less mdel_less) ds xs (FzA.of_wv h2)), q2⟩
end

/-! ### comprehensions, told in short -/
/-- all that may change in M is so in M' -/
def Keep (M M' : MH) : Prop := ∀ b o, M b = some o → M' b = some o
theorem Keep.refl (M : MH) : Keep M M := fun _ _ h => h
theorem Keep.trans {M M1 M2 : MH} (a : Keep M M1) (b : Keep M1 M2) : Keep M M2 := fun c o h => b c o (a c o h)
theorem keep_new {M : MH} {p : Addr} {o : O} (h : M p = none) : Keep M (mset M p o) := fun b u e => by
  rw [mset_ne (fun z => by rw [z, h] at e; cases e)]
  exact e
theorem mdel_mset {M : MH} {p : Addr} {o : O} (h : M p = none) : mdel (mset M p o) p = M := by
  funext b
  by_cases e : b = p
  · subst e
    rw [mdel_same, h]
  · rw [mdel_ne e, mset_ne e]
theorem mset_mset {M : MH} {p : Addr} {o u : O} : mset (mset M p o) p u = mset M p u := by
  funext b
  by_cases e : b = p
  · subst e
    rw [mset_same, mset_same]
  · rw [mset_ne e, mset_ne e, mset_ne e]
theorem getElem?_take_succ {α : Type} {xs : List α} {j : Nat} {x : α} (h : xs[j]? = some x) : xs.take (j + 1) = xs.take j ++ [x] := by
  rw [List.take_add_one, h]
  rfl
/-- elements that are plain data of the items -/
theorem lcP {ws : List W} {kc : MH → Prop} {M1 : MH} {σ : SD} {vs : List Nat} {T : Tg} {tt : TTd} {te : TEd} {R0 : List PyData → MH → Prop} (f : W → Bool) (h : W → PyData) (hz : ws.length ≤ 16000000) (hkc : ∀ D acc, M1 D = none → kc (mset M1 D (.lst acc)))
    (he : ∀ w ∈ ws, tgQ T w (wipeD σ vs) fun σ2 => ∀ M2, Keep M1 M2 → (∀ R : Bool → MH → Prop, R (f w) M2 → tt σ2 M2 R) ∧ (f w = true → ∀ R : W → MH → Prop, R (.d (h w)) M2 → te σ2 M2 R)) (q : R0 ((ws.filter f).map h) M1) :
    ∀ D, M1 D = none → ∃ I : Nat → List W → MH → Prop, I 0 [] (mset M1 D (.lst [])) ∧ (∀ j acc M2, I j acc M2 → kc M2 ∧ M2 D = some (.lst acc)) ∧
      (∀ j w acc M2, ws[j]? = some w → I j acc M2 → tgQ T w (wipeD σ vs) fun σ2 => tt σ2 M2 fun b M4 => if b = true then te σ2 M4 fun x M5 => M5 D = some (.lst acc) ∧ acc.length < sizeLine ∧ I (j + 1) (acc ++ [x]) (mset M5 D (.lst (acc ++ [x]))) else I (j + 1) acc M4) ∧
      (∀ acc M2, I ws.length acc M2 → dataQ R0 acc (mdel M2 D)) := by
  intro D nD
  refine ⟨fun j acc M2 => M2 = mset M1 D (.lst acc) ∧ acc = (((ws.take j).filter f).map h).map W.d, ⟨rfl, rfl⟩, ?_, ?_, ?_⟩
  · rintro j acc M2 ⟨rfl, _⟩
    exact ⟨hkc D acc nD, mset_same⟩
  · rintro j w acc M2 hj ⟨rfl, hacc⟩
    have hw := he w (List.mem_of_getElem? hj)
    have len : acc.length < sizeLine := by
      rw [hacc, List.length_map, List.length_map, sizeLine_eq]
      have h1 := List.length_filter_le f (ws.take j)
      have h2 : (ws.take j).length ≤ ws.length := by rw [List.length_take]; omega
      omega
    have go : ∀ σ2, (∀ M2, Keep M1 M2 → (∀ R : Bool → MH → Prop, R (f w) M2 → tt σ2 M2 R) ∧ (f w = true → ∀ R : W → MH → Prop, R (.d (h w)) M2 → te σ2 M2 R)) →
        tt σ2 (mset M1 D (.lst acc)) fun b M4 => if b = true then te σ2 M4 fun x M5 => M5 D = some (.lst acc) ∧ acc.length < sizeLine ∧ (mset M5 D (.lst (acc ++ [x])) = mset M1 D (.lst (acc ++ [x])) ∧ acc ++ [x] = (((ws.take (j + 1)).filter f).map h).map W.d) else (M4 = mset M1 D (.lst acc) ∧ acc = (((ws.take (j + 1)).filter f).map h).map W.d) := by
      intro σ2 z
      obtain ⟨z1, z2⟩ := z _ (keep_new nD)
      refine z1 _ ?_
      cases hf : f w with
      | true =>
        refine iteT (z2 hf _ ⟨mset_same, len, mset_mset, ?_⟩)
        rw [getElem?_take_succ hj, List.filter_append, List.map_append, List.map_append, ← hacc]
        simp [hf]
      | false =>
        refine iteF ⟨rfl, ?_⟩
        rw [getElem?_take_succ hj, List.filter_append, List.map_append, List.map_append, ← hacc]
        simp [hf]
    cases T with
    | one jt => exact go _ hw
    | many js =>
      unfold tgQ at hw ⊢
      simp only at hw ⊢
      split at hw
      · exact ⟨hw.1, go _ hw.2⟩
      · exact hw.elim
  · rintro acc M2 ⟨rfl, hacc⟩
    rw [List.take_length] at hacc
    rw [hacc, mdel_mset nD]
    unfold dataQ
    rw [allD_map]
    exact q
/-- .. told by an equation -/
theorem lcPe {ws : List W} {kc : MH → Prop} {M1 : MH} {σ : SD} {vs : List Nat} {T : Tg} {tt : TTd} {te : TEd} {R0 : List PyData → MH → Prop} (f : W → Bool) (h : W → PyData) (ds : List PyData) (e : (ws.filter f).map h = ds) (hz : ws.length ≤ 16000000) (hkc : ∀ D acc, M1 D = none → kc (mset M1 D (.lst acc)))
    (he : ∀ w ∈ ws, tgQ T w (wipeD σ vs) fun σ2 => ∀ M2, Keep M1 M2 → (∀ R : Bool → MH → Prop, R (f w) M2 → tt σ2 M2 R) ∧ (f w = true → ∀ R : W → MH → Prop, R (.d (h w)) M2 → te σ2 M2 R)) (q : R0 ds M1) :
    ∀ D, M1 D = none → ∃ I : Nat → List W → MH → Prop, I 0 [] (mset M1 D (.lst [])) ∧ (∀ j acc M2, I j acc M2 → kc M2 ∧ M2 D = some (.lst acc)) ∧
      (∀ j w acc M2, ws[j]? = some w → I j acc M2 → tgQ T w (wipeD σ vs) fun σ2 => tt σ2 M2 fun b M4 => if b = true then te σ2 M4 fun x M5 => M5 D = some (.lst acc) ∧ acc.length < sizeLine ∧ I (j + 1) (acc ++ [x]) (mset M5 D (.lst (acc ++ [x]))) else I (j + 1) acc M4) ∧
      (∀ acc M2, I ws.length acc M2 → dataQ R0 acc (mdel M2 D)) := by
  subst e
  exact lcP f h hz hkc he q
theorem filter_all {α : Type} (l : List α) : l.filter (fun _ => true) = l := by induction l with | nil => rfl | cons x l ih => simp
/-- .. all of them -/
theorem lcA {ws : List W} {kc : MH → Prop} {M1 : MH} {σ : SD} {vs : List Nat} {T : Tg} {te : TEd} {R0 : List PyData → MH → Prop} (h : W → PyData) (hz : ws.length ≤ 16000000) (hkc : ∀ D acc, M1 D = none → kc (mset M1 D (.lst acc)))
    (he : ∀ w ∈ ws, tgQ T w (wipeD σ vs) fun σ2 => ∀ M2, Keep M1 M2 → ∀ R : W → MH → Prop, R (.d (h w)) M2 → te σ2 M2 R) (q : R0 (ws.map h) M1) :
    ∀ D, M1 D = none → ∃ I : Nat → List W → MH → Prop, I 0 [] (mset M1 D (.lst [])) ∧ (∀ j acc M2, I j acc M2 → kc M2 ∧ M2 D = some (.lst acc)) ∧
      (∀ j w acc M2, ws[j]? = some w → I j acc M2 → tgQ T w (wipeD σ vs) fun σ2 => tAll σ2 M2 fun b M4 => if b = true then te σ2 M4 fun x M5 => M5 D = some (.lst acc) ∧ acc.length < sizeLine ∧ I (j + 1) (acc ++ [x]) (mset M5 D (.lst (acc ++ [x]))) else I (j + 1) acc M4) ∧
      (∀ acc M2, I ws.length acc M2 → dataQ R0 acc (mdel M2 D)) := by
  refine lcP (fun _ => true) h hz hkc (fun w hw => ?_) (by rw [filter_all]; exact q)
  have z := he w hw
  cases T with
  | one jt => exact fun M2 k => ⟨fun R r => r, fun _ => z M2 k⟩
  | many js =>
    unfold tgQ at z ⊢
    simp only at z ⊢
    split at z
    · exact ⟨z.1, fun M2 k => ⟨fun R r => r, fun _ => z.2 M2 k⟩⟩
    · exact z.elim
/-- .. told by an equation -/
theorem lcAe {ws : List W} {kc : MH → Prop} {M1 : MH} {σ : SD} {vs : List Nat} {T : Tg} {te : TEd} {R0 : List PyData → MH → Prop} (h : W → PyData) (ds : List PyData) (e : ws.map h = ds) (hz : ws.length ≤ 16000000) (hkc : ∀ D acc, M1 D = none → kc (mset M1 D (.lst acc)))
    (he : ∀ w ∈ ws, tgQ T w (wipeD σ vs) fun σ2 => ∀ M2, Keep M1 M2 → ∀ R : W → MH → Prop, R (.d (h w)) M2 → te σ2 M2 R) (q : R0 ds M1) :
    ∀ D, M1 D = none → ∃ I : Nat → List W → MH → Prop, I 0 [] (mset M1 D (.lst [])) ∧ (∀ j acc M2, I j acc M2 → kc M2 ∧ M2 D = some (.lst acc)) ∧
      (∀ j w acc M2, ws[j]? = some w → I j acc M2 → tgQ T w (wipeD σ vs) fun σ2 => tAll σ2 M2 fun b M4 => if b = true then te σ2 M4 fun x M5 => M5 D = some (.lst acc) ∧ acc.length < sizeLine ∧ I (j + 1) (acc ++ [x]) (mset M5 D (.lst (acc ++ [x]))) else I (j + 1) acc M4) ∧
      (∀ acc M2, I ws.length acc M2 → dataQ R0 acc (mdel M2 D)) := by
  subst e
  exact lcA h hz hkc he q
end Dl
set_option Elab.async false
set_option linter.all false
set_option maxRecDepth 100000
namespace Dl
open PySem PySem.Spec PyProof.Rows L2

/-! ### ways -/
theorem ifD {c A B : Prop} [Decidable c] (h1 : c → A) (h2 : ¬ c → B) : if decide c = true then A else B := by
  by_cases h : c
  · rw [if_pos (decide_eq_true h)]; exact h1 h
  · rw [if_neg (by rw [decide_eq_false h]; exact Bool.false_ne_true)]; exact h2 h
theorem ifB {b : Bool} {A B : Prop} (h1 : b = true → A) (h2 : b = false → B) : if b = true then A else B := by
  cases b
  · exact iteF (h2 rfl)
  · exact iteT (h1 rfl)

/-! ### sizes of numbers -/
theorem bits_le {x : Int} {n : Nat} (h : x.natAbs < 2 ^ n) : Builtin.Int.intBits x ≤ n := by
  by_cases hx : x = 0
  · subst hx
    have : Builtin.Int.intBits 0 = 0 := by decide
    omega
  · have h0 : x.natAbs ≠ 0 := by omega
    have := (Nat.log2_lt h0).mpr h
    unfold Builtin.Int.intBits
    split <;> omega
theorem powOk_of {x : Int} {n : Nat} {k : Int} (h : x.natAbs < 2 ^ n) (h0 : 0 ≤ k) (hk : n * k.toNat ≤ 2 ^ 27) : powOk x k := by
  refine ⟨h0, ?_⟩
  have h1 := bits_le h
  have h2 : Builtin.Int.intBits x * k.toNat ≤ n * k.toNat := Nat.mul_le_mul_right _ h1
  have h3 : ((Builtin.Int.intBits x : Nat) : Int) * k = ((Builtin.Int.intBits x * k.toNat : Nat) : Int) := by
    rw [Int.natCast_mul, Int.toNat_of_nonneg h0]
  rw [h3]
  have : Builtin.Int.intBits x * k.toNat ≤ 2 ^ 27 := Nat.le_trans h2 hk
  exact_mod_cast this
theorem log2_lt {x : Int} {n : Nat} (h0 : 0 < n) (h : x.natAbs < 2 ^ n) : x.natAbs.log2 < n := PySem.Flt.log2_lt_of h0 h
theorem mulOk_of {x y : Int} {n m : Nat} (hn : 0 < n) (hm : 0 < m) (hx : x.natAbs < 2 ^ n) (hy : y.natAbs < 2 ^ m) (h : n + m ≤ 1000000) : mulOk x y := by
  have a := log2_lt hn hx
  have b := log2_lt hm hy
  unfold mulOk
  omega
theorem divOk_of {x y : Int} {n : Nat} (h : y ≠ 0) (hn : 0 < n) (hy : y.natAbs < 2 ^ n) (h9 : n ≤ 9000) : divOk x y := ⟨h, Nat.lt_of_lt_of_le (log2_lt hn hy) h9⟩
theorem fmod_pos {x y : Int} (h : 0 < y) : x.fmod y = x % y := Int.fmod_eq_emod_of_nonneg x (by omega)
theorem fdiv_pos {x y : Int} (h : 0 < y) : x.fdiv y = x / y := Int.fdiv_eq_ediv_of_nonneg x (by omega)

/-! ### the laws' pot: a list of three numbers -/
def Pot (a : Addr) (n : Nat) (M : MH) : Prop := ∃ x y z : Int, M a = some (.lst [.d (.int x), .d (.int y), .d (.int z)]) ∧ 0 ≤ x ∧ x.natAbs < 2 ^ 2000 ∧ 0 ≤ y ∧ y.natAbs < 2 ^ 61 ∧ 0 ≤ z ∧ z ≤ n
def Oth (a : Addr) (M M' : MH) : Prop := ∀ b o, b ≠ a → M b = some o → M' b = some o
theorem Oth.refl (a : Addr) (M : MH) : Oth a M M := fun _ _ _ h => h
theorem Oth.trans {a : Addr} {M M1 M2 : MH} (h : Oth a M M1) (k : Oth a M1 M2) : Oth a M M2 := fun b o n e => k b o n (h b o n e)
theorem oth_set {a : Addr} {M : MH} {o : O} : Oth a M (mset M a o) := fun b u n e => by rw [mset_ne n]; exact e
theorem Pot.mono {a : Addr} {n m : Nat} {M : MH} (h : Pot a n M) (k : n ≤ m) : Pot a m M := by
  obtain ⟨x, y, z, h1, h2, h3, h4, h5, h6, h7⟩ := h
  exact ⟨x, y, z, h1, h2, h3, h4, h5, h6, by omega⟩
theorem Pot.there {a : Addr} {n : Nat} {M : MH} (h : Pot a n M) : M a ≠ none := by
  obtain ⟨x, y, z, h1, _⟩ := h
  rw [h1]
  exact fun z => by cases z
/-- as many draws as there may be -/
def lots : Nat := 2 ^ 30
/-- a draw below m -/
def spTake : SpD := fun ws M Q _ => ∃ (a : Addr) (n : Nat) (m : Int), ws = [.ref a, .d (.int m)] ∧ 1 ≤ m ∧ m.natAbs < 2 ^ 2000 ∧ n < lots ∧ Pot a n M ∧ ∀ r M', 0 ≤ r → r < m → Pot a (n + 1) M' → Oth a M M' → Q (.d (.int r)) M'
theorem spTake_len : ∀ ws M Q E, spTake ws M Q E → ws.length = 2 := by rintro _ _ _ _ ⟨a, n, m, rfl, _⟩; rfl
/-- a pot made -/
def spPot : SpD := fun ws M Q _ => ∃ (ns : List Int) (k : Int), ws = [.scr (ns.map PyData.int), .d (.int k)] ∧ 0 ≤ k ∧ k < 2 ^ 20 ∧ ∀ p M', M p = none → Pot p 0 M' → Oth p M M' → Q (.ref p) M'
theorem spPot_len : ∀ ws M Q E, spPot ws M Q E → ws.length = 2 := by rintro _ _ _ _ ⟨a, n, rfl, _⟩; rfl
/-- something drawn: from the pot at a and plain data, by at most c draws -/
def spDraw (c : Nat) (args : List W → Addr → Prop) (P : List W → PyData → Prop) : SpD := fun ws M Q _ => ∃ (a : Addr) (n : Nat), args ws a ∧ n + c ≤ lots ∧ Pot a n M ∧ ∀ x M', P ws x → Pot a (n + c) M' → Oth a M M' → Q (.d x) M'
theorem at0 {α : Type} {x : α} {l : List α} : atI (x :: l) 0 = some x := by
  have := atI_nat (xs := x :: l) (j := 0) (v := x) rfl
  simpa using this
theorem at1 {α : Type} {x y : α} {l : List α} : atI (x :: y :: l) 1 = some y := by
  have := atI_nat (xs := x :: y :: l) (j := 1) (v := y) rfl
  simpa using this
theorem at2 {α : Type} {x y z : α} {l : List α} : atI (x :: y :: z :: l) 2 = some z := by
  have := atI_nat (xs := x :: y :: z :: l) (j := 2) (v := z) rfl
  simpa using this
theorem atI_mem {α : Type} {xs : List α} {r : Int} (h0 : 0 ≤ r) (h : r < xs.length) : ∃ d, atI xs r = some d ∧ d ∈ xs := by
  obtain ⟨n, rfl⟩ := Int.eq_ofNat_of_zero_le h0
  have hn : n < xs.length := by omega
  exact ⟨xs[n], atI_nat (by simp [hn]), by simp⟩
end Dl
set_option Elab.async false
set_option linter.all false
set_option maxRecDepth 100000
namespace Dl
open PySem PySem.Spec PyProof.Rows L2

theorem fm_lo {x m : Int} (h : 0 < m) : 0 ≤ x.fmod m := by rw [fmod_pos h]; exact Int.emod_nonneg _ (by omega)
theorem fm_hi {x m : Int} (h : 0 < m) : x.fmod m < m := by rw [fmod_pos h]; exact Int.emod_lt_of_pos _ h
theorem fm_bits {x m : Int} {n : Nat} (h : 0 < m) (hm : m.natAbs ≤ 2 ^ n) : (x.fmod m).natAbs < 2 ^ n := by
  have a := fm_lo (x := x) h
  have b := fm_hi (x := x) h
  generalize 2 ^ n = N at hm ⊢
  omega
theorem nat_lt_of {x : Int} {n m : Nat} (h : x.natAbs < 2 ^ n) (k : n ≤ m) : x.natAbs < 2 ^ m := Nat.lt_of_lt_of_le h (Nat.pow_le_pow_right (by decide) k)
def bigM : Int := ((10 : Int) ^ (60 : Int).toNat) ^ (10 : Int).toNat
theorem bigM_pos : 0 < bigM := by decide +kernel
theorem bigM_bits : bigM.natAbs ≤ 2 ^ 2000 := by decide +kernel
/-- what the laws' pot asks of its cell -/
theorem pot_cell (x : Int) : powOk 10 60 ∧ powOk ((10 : Int) ^ (60 : Int).toNat) 10 ∧ divOk (x.natAbs : Int) bigM ∧ 0 ≤ (x.natAbs : Int).fmod bigM ∧ ((x.natAbs : Int).fmod bigM).natAbs < 2 ^ 2000 :=
  ⟨powOk_of (n := 4) (by decide) (by decide) (by decide), powOk_of (n := 200) (by decide +kernel) (by decide) (by decide), divOk_of (n := 2001) (by decide +kernel) (by decide) (by decide +kernel) (by decide), fm_lo bigM_pos, fm_bits bigM_pos bigM_bits⟩
/-- what it asks to be put together, and that it is a pot -/
theorem pot_made {c k : Int} {b : Bool} (h0 : 0 ≤ c) (h1 : c.natAbs < 2 ^ 2000) (k0 : 0 ≤ k) (k1 : k < 2 ^ 20) : powOk 10 18 ∧ mulOk c (if b = true then 1 else 0) ∧ divOk c 2147483629 ∧ mulOk 7919 k ∧ powOk (c.fmod 2147483629 + 7919 * k + 1) 5 ∧ divOk ((c.fmod 2147483629 + 7919 * k + 1) ^ (5 : Int).toNat) 2305843009213693951 ∧
    ∀ (a : Addr) (M : MH), Pot a 0 (mset M a (.lst [.d (.int (c * (if b = true then 1 else 0))), .d (.int (((c.fmod 2147483629 + 7919 * k + 1) ^ (5 : Int).toNat).fmod 2305843009213693951)), .d (.int 0)])) := by
  have d1 := fm_lo (x := c) (m := 2147483629) (by decide)
  have d2 := fm_hi (x := c) (m := 2147483629) (by decide)
  have e20 : (2 : Int) ^ 20 = 1048576 := by decide
  rw [e20] at k1
  have e34 : (2 : Nat) ^ 34 = 17179869184 := by decide
  refine ⟨powOk_of (n := 4) (by decide) (by decide) (by decide), mulOk_of (n := 2000) (m := 1) (by decide) (by decide) h1 (by cases b <;> decide) (by decide), divOk_of (n := 31) (by decide) (by decide) (by decide) (by decide), mulOk_of (n := 13) (m := 20) (by decide) (by decide) (by decide) (by rw [show (2 : Nat) ^ 20 = 1048576 by decide]; omega) (by decide), powOk_of (n := 34) (by rw [e34]; omega) (by decide) (by decide), divOk_of (n := 61) (by decide) (by decide) (by decide) (by decide), fun a M => ⟨_, _, 0, mset_same, ?_, ?_, fm_lo (by decide), fm_bits (by decide) (by decide), by decide, by decide⟩⟩
  · cases b
    · rw [if_neg Bool.false_ne_true, Int.mul_zero]
      decide
    · rw [if_pos rfl, Int.mul_one]
      exact h0
  · cases b
    · rw [if_neg Bool.false_ne_true, Int.mul_zero]
      exact Nat.two_pow_pos _
    · rw [if_pos rfl, Int.mul_one]
      exact h1
/-- a draw from a pot that has something -/
theorem take_full {x m : Int} (h : 0 < x) (hx : x.natAbs < 2 ^ 2000) (h1 : 1 ≤ m) (hm : m.natAbs < 2 ^ 2000) : divOk x m ∧ 0 ≤ x.fmod m ∧ x.fmod m < m ∧ 0 ≤ x.fdiv m ∧ (x.fdiv m).natAbs < 2 ^ 2000 := by
  refine ⟨divOk_of (n := 2000) (by omega) (by decide) hm (by decide), fm_lo (by omega), fm_hi (by omega), ?_, ?_⟩
  · rw [fdiv_pos (by omega)]
    exact Int.ediv_nonneg (by omega) (by omega)
  · rw [fdiv_pos (by omega)]
    have a : 0 ≤ x / m := Int.ediv_nonneg (by omega) (by omega)
    have b : x / m ≤ x := Int.ediv_le_self m (by omega)
    generalize 2 ^ 2000 = N at hx ⊢
    omega
/-- a draw from a pot that has nothing more -/
def tk1 (y z : Int) : Int := ((y + 104729 * z) ^ (3 : Int).toNat).fmod 2305843009213693921
def tk2 (y z : Int) : Int := ((tk1 y z + y.fmod 65537 + 31 * z) ^ (5 : Int).toNat).fmod 2305843009213693907
theorem take_none {y z m : Int} (hy0 : 0 ≤ y) (hy : y.natAbs < 2 ^ 61) (hz0 : 0 ≤ z) (hz : z ≤ lots) (h1 : 1 ≤ m) (hm : m.natAbs < 2 ^ 2000) :
    mulOk 104729 z ∧ powOk (y + 104729 * z) 3 ∧ divOk ((y + 104729 * z) ^ (3 : Int).toNat) 2305843009213693921 ∧ divOk y 65537 ∧ mulOk 31 z ∧ powOk (tk1 y z + y.fmod 65537 + 31 * z) 5 ∧ divOk ((tk1 y z + y.fmod 65537 + 31 * z) ^ (5 : Int).toNat) 2305843009213693907 ∧ divOk (tk2 y z) 1024 ∧ divOk ((tk2 y z).fdiv 1024) m ∧ 0 ≤ ((tk2 y z).fdiv 1024).fmod m ∧ ((tk2 y z).fdiv 1024).fmod m < m := by
  have e30 : (lots : Int) = 1073741824 := by decide
  rw [e30] at hz
  have e31 : (2 : Nat) ^ 31 = 2147483648 := by decide
  have e61 : (2 : Nat) ^ 61 = 2305843009213693952 := by decide
  have e62 : (2 : Nat) ^ 62 = 4611686018427387904 := by decide
  rw [e61] at hy
  have a1 : 0 ≤ tk1 y z := fm_lo (by decide)
  have a2 : tk1 y z < 2305843009213693921 := fm_hi (by decide)
  have b1 := fm_lo (x := y) (m := 65537) (by decide)
  have b2 := fm_hi (x := y) (m := 65537) (by decide)
  have z31 : z.natAbs < 2 ^ 31 := by rw [e31]; omega
  refine ⟨mulOk_of (n := 17) (m := 31) (by decide) (by decide) (by decide) z31 (by decide), powOk_of (n := 62) (by rw [e62]; omega) (by decide) (by decide), divOk_of (n := 61) (by decide) (by decide) (by decide) (by decide), divOk_of (n := 17) (by decide) (by decide) (by decide) (by decide), mulOk_of (n := 17) (m := 31) (by decide) (by decide) (by decide) z31 (by decide), powOk_of (n := 62) (by rw [e62]; omega) (by decide) (by decide), divOk_of (n := 61) (by decide) (by decide) (by decide) (by decide), divOk_of (n := 11) (by decide) (by decide) (by decide) (by decide), divOk_of (n := 2000) (by omega) (by decide) hm (by decide), fm_lo (by omega), fm_hi (by omega)⟩
/-- a truth that is known -/
theorem bqc {Q : Bool → MH → Prop} {b : Bool} {M : MH} (c : Bool) (e : b = c) (h : Q c M) : boolQ Q (.d (.bool b)) M := by
  subst e
  exact h
theorem bq {Q : Bool → MH → Prop} {b : Bool} {M : MH} (h : Q b M) : boolQ Q (.d (.bool b)) M := h
theorem sm0 : small 0 := small_of (by decide)
theorem sm1 : small 1 := small_of (by decide)
theorem sm2 : small 2 := small_of (by decide)
theorem sm3 : small 3 := small_of (by decide)
theorem sm4 : small 4 := small_of (by decide)
theorem sm5 : small 5 := small_of (by decide)
theorem sm6 : small 6 := small_of (by decide)
theorem sm7 : small 7 := small_of (by decide)
theorem sm8 : small 8 := small_of (by decide)
theorem sm9 : small 9 := small_of (by decide)
theorem sm10 : small 10 := small_of (by decide)
theorem sm11 : small 11 := small_of (by decide)
theorem sm12 : small 12 := small_of (by decide)
theorem sm13 : small 13 := small_of (by decide)
theorem sm14 : small 14 := small_of (by decide)
theorem sm15 : small 15 := small_of (by decide)
theorem sm16 : small 16 := small_of (by decide)
theorem sm17 : small 17 := small_of (by decide)
theorem sm18 : small 18 := small_of (by decide)
theorem sm19 : small 19 := small_of (by decide)
theorem sm20 : small 20 := small_of (by decide)
theorem sm21 : small 21 := small_of (by decide)
theorem sm22 : small 22 := small_of (by decide)
theorem sm23 : small 23 := small_of (by decide)
theorem sm25 : small 25 := small_of (by decide)
theorem sm26 : small 26 := small_of (by decide)
theorem sm27 : small 27 := small_of (by decide)
theorem sm28 : small 28 := small_of (by decide)
theorem sm24 : small 24 := small_of (by decide)
end Dl
set_option Elab.async false
set_option linter.all false
set_option maxRecDepth 100000
namespace Dl
open PySem PySem.Spec PyProof.Rows L2

theorem spLaw_len : ∀ ws M Q E, spLaw ws M Q E → ws.length = 1 := by rintro _ _ _ _ ⟨ns, rfl, _⟩; rfl
theorem rng_len {lo : Int} {n : Nat} : (rng lo n).length = n := by simp [rng]
theorem rng_get {lo : Int} {n j : Nat} {w : W} (h : (rng lo n)[j]? = some w) : j < n ∧ w = .d (.int (lo + j)) := by
  unfold rng at h
  rw [List.getElem?_map] at h
  by_cases hj : j < n
  · rw [List.getElem?_range hj] at h
    exact ⟨hj, (Option.some.inj h).symm⟩
  · rw [List.getElem?_eq_none (by simpa using hj)] at h
    cases h
/-- a cut between statements -/
theorem sq_cut {t u : TSd} {D : EndsD} {σ : SD} {M : MH} (P : SD → MH → Prop) (h : ∀ N : SD → MH → Prop, (∀ σ M, P σ M → N σ M) → t { D with nx := N } σ M) (k : ∀ σ M, P σ M → u D σ M) : tSq t u D σ M := h (u D) k
theorem mem_map_get {ds : List PyData} {j : Nat} {w : W} (h : (ds.map W.d)[j]? = some w) : ∃ d, w = .d d ∧ d ∈ ds := by
  obtain ⟨d, e, h2⟩ := getElem?_mapd h
  exact ⟨d, e, List.mem_of_getElem? h2⟩
theorem Pot.of {p : Addr} {n : Nat} {M M' : MH} (h : Pot p n M) (e : M' p = M p) : Pot p n M' := by
  obtain ⟨x, y, z, h1, r⟩ := h
  exact ⟨x, y, z, by rw [e]; exact h1, r⟩
theorem Pot.ne {p D : Addr} {n : Nat} {M : MH} (h : Pot p n M) (k : M D = none) : p ≠ D := by
  rintro rfl
  exact h.there k
theorem dataQ_of {Q : List PyData → MH → Prop} {ds : List PyData} {M : MH} (h : Q ds M) : dataQ Q (ds.map W.d) M := by
  unfold dataQ
  rw [allD_map]
  exact h
/-- a list of things drawn one by one from the pot at p, at most c draws each -/
theorem lcDraw {ws : List W} {kc : MH → Prop} {M1 : MH} {σ : SD} {vs : List Nat} {T : Tg} {te : TEd} {R0 : List PyData → MH → Prop} (p : Addr) (n c : Nat) (P : PyData → Prop) (hz : ws.length ≤ 16000000) (hkc : ∀ M, kc M) (hp : Pot p n M1)
    (he : ∀ (j : Nat) w, ws[j]? = some w → tgQ T w (wipeD σ vs) fun σ2 => ∀ M2, Pot p (n + c * j) M2 → Oth p M1 M2 → ∀ R : W → MH → Prop, (∀ x M3, P x → Pot p (n + c * j + c) M3 → Oth p M2 M3 → R (.d x) M3) → te σ2 M2 R)
    (q : ∀ ds M3, ds.length = ws.length → (∀ d ∈ ds, P d) → Pot p (n + c * ws.length) M3 → Oth p M1 M3 → R0 ds M3) :
    ∀ D, M1 D = none → ∃ I : Nat → List W → MH → Prop, I 0 [] (mset M1 D (.lst [])) ∧ (∀ j acc M2, I j acc M2 → kc M2 ∧ M2 D = some (.lst acc)) ∧
      (∀ j w acc M2, ws[j]? = some w → I j acc M2 → tgQ T w (wipeD σ vs) fun σ2 => tAll σ2 M2 fun b M4 => if b = true then te σ2 M4 fun x M5 => M5 D = some (.lst acc) ∧ acc.length < sizeLine ∧ I (j + 1) (acc ++ [x]) (mset M5 D (.lst (acc ++ [x]))) else I (j + 1) acc M4) ∧
      (∀ acc M2, I ws.length acc M2 → dataQ R0 acc (mdel M2 D)) := by
  intro D nD
  have pD := hp.ne nD
  have sz := sizeLine_eq
  refine ⟨fun j acc M2 => j ≤ ws.length ∧ M2 D = some (.lst acc) ∧ Pot p (n + c * j) M2 ∧ Oth p M1 M2 ∧ ∃ ds : List PyData, acc = ds.map W.d ∧ ds.length = j ∧ ∀ d ∈ ds, P d, ?_, ?_, ?_, ?_⟩
  · refine ⟨Nat.zero_le _, mset_same, (hp.mono (by omega)).of (mset_ne pD), ?_, [], rfl, rfl, by simp⟩
    intro b o nb e
    rw [mset_ne (by rintro rfl; rw [nD] at e; cases e)]
    exact e
  · rintro j acc M2 ⟨_, h, _⟩
    exact ⟨hkc _, h⟩
  · rintro j w acc M2 hj ⟨hle, hD, hpj, ho, ds, rfl, hl, hP⟩
    have hj2 : j < ws.length := (List.getElem?_eq_some_iff.mp hj).1
    have fin : ∀ σ2, (∀ M2, Pot p (n + c * j) M2 → Oth p M1 M2 → ∀ R : W → MH → Prop, (∀ x M3, P x → Pot p (n + c * j + c) M3 → Oth p M2 M3 → R (.d x) M3) → te σ2 M2 R) → te σ2 M2 fun x M5 => M5 D = some (.lst (ds.map W.d)) ∧ (ds.map W.d).length < sizeLine ∧ (j + 1 ≤ ws.length ∧ (mset M5 D (.lst (ds.map W.d ++ [x]))) D = some (.lst (ds.map W.d ++ [x])) ∧ Pot p (n + c * (j + 1)) (mset M5 D (.lst (ds.map W.d ++ [x]))) ∧ Oth p M1 (mset M5 D (.lst (ds.map W.d ++ [x]))) ∧ ∃ es : List PyData, ds.map W.d ++ [x] = es.map W.d ∧ es.length = j + 1 ∧ ∀ d ∈ es, P d) := by
      intro σ2 h
      refine h M2 hpj ho _ fun x M3 px pp oo => ?_
      refine ⟨oo D _ (fun e => pD e.symm) hD, by rw [List.length_map, hl]; omega, by omega, mset_same, ?_, ?_, ds ++ [x], by simp, by simp [hl], ?_⟩
      · refine (pp.mono ?_).of (mset_ne pD)
        rw [Nat.mul_add, Nat.mul_one]
        omega
      · intro b o nb e
        rw [mset_ne (by rintro rfl; rw [nD] at e; cases e)]
        exact oo b o nb (ho b o nb e)
      · intro d hd
        rcases List.mem_append.mp hd with h1 | h1
        · exact hP d h1
        · rw [List.mem_singleton.mp h1]; exact px
    have z := he j w hj
    cases T with
    | one jt => exact fin _ z
    | many js =>
      unfold tgQ at z ⊢
      simp only at z ⊢
      split at z
      · exact ⟨z.1, fin _ z.2⟩
      · exact z.elim
  · rintro acc M2 ⟨_, hD, hpj, ho, ds, rfl, hl, hP⟩
    refine dataQ_of (q ds _ hl hP (hpj.of (mdel_ne pD)) ?_)
    intro b o nb e
    rw [mdel_ne (by rintro rfl; rw [nD] at e; cases e)]
    exact ho b o nb e
end Dl
set_option Elab.async false
set_option linter.all false
set_option maxRecDepth 100000
namespace Dl
open PySem PySem.Spec PyProof.Rows L2

section
variable {g : Gc} {i : Si} {k : Nat} {Y : Dx} {s : L2.St} {H : Hp} {σ : SD} {M : MH}
/-! ### slices -/
abbrev TOd := SD → MH → (Option Int → MH → Prop) → Prop
def semO1 (X : Cx) (e : Option Expr) : TO := fun s H Q => ∀ pins sh, Inv X pins s H sh → wpAny (model X.prog X.w) X.A (evalPart e X.env) (fun u s' => ∃ o H', Inv X pins s H' s' ∧ IsPart u o ∧ Q o H') X.xe sh
theorem po_sem {X : Cx} {e : Option Expr} : PO X e (semO1 X e) := ⟨fun pins s sh H Q I h => h pins s I⟩
theorem semO1_of {X : Cx} {e : Option Expr} {t : TO} (h : PO X e t) {s : L2.St} {H : Hp} {Q : Option Int → Hp → Prop} (q : t s H Q) : semO1 X e s H Q := fun pins sh I => h.run pins sh s H Q I q
structure QO (Y : Dx) (e : Option Expr) (t : TOd) : Prop where
  run : ∀ s H σ M Q, Std Y s H σ M → t σ M Q → semO1 Y.X e s H (fun o H' => ∃ M', Ext H M H' M' ∧ Dok Y.X.K H' M' ∧ Q o M')
def tNoO : TOd := fun _ M Q => Q none M
def tSmO (t : TEd) : TOd := fun σ M Q => t σ M fun w M1 => match w with | .d (.int n) => Q (some n) M1 | _ => False
theorem o_no : QO Y none tNoO := ⟨fun s H σ M Q S h => semO1_of po_none ⟨M, .refl _ _, S.d, h⟩⟩
theorem o_sm {e : Expr} {t : TEd} (he : QE Y e t) : QO Y (some e) (tSmO t) := by
  refine ⟨fun s H σ M Q S h => semO1_of (po_some pe_sem) (he.then_ S h fun v H1 w M1 e d r q => ?_)⟩
  split at q
  · exact ⟨_, r.int, M1, e, d, q⟩
  · exact q.elim
/-- the part of a list from lo to hi -/
def cut {α : Type} (xs : List α) (lo hi : Option Int) : List α := (xs.drop (HT.sIx xs.length 0 lo)).take (HT.sIx xs.length xs.length hi - HT.sIx xs.length 0 lo)
def rSlD : W → Option Int → Option Int → MH → (W → MH → Prop) → Prop := fun w lo hi M Q => match w with
  | .d (.tuple ds) => Q (.d (.tuple (cut ds lo hi))) M
  | .d (.str z) => small z.length ∧ Q (.d (.str (cutS z lo hi))) M
  | .d (.list ds) => Q (.d (.list (cut ds lo hi))) M
  | _ => False
theorem FzA.cut {K : PySem.W.Frag} {vs : List V} {ds : List PyData} (h : FzA K H M vs ds) (lo hi : Option Int) : FzA K H M (cutV vs lo hi) (cut ds lo hi) := by
  unfold cutV Dl.cut
  rw [h.length]
  exact (h.drop _).take _
theorem cut_whole {α : Type} (xs : List α) {lo hi : Option Int} (h : HT.sIx xs.length 0 lo = 0 ∧ HT.sIx xs.length xs.length hi = xs.length) : cut xs lo hi = xs := by
  unfold cut
  rw [h.1, h.2]
  simp
def tSlD (te : TEd) (tl th : TOd) : TEd := fun σ M Q => te σ M fun w M1 => tl σ M1 fun lo M2 => th σ M2 fun hi M3 => rSlD w lo hi M3 Q
def rSlX (K : PySem.W.Frag) : V → Option Int → Option Int → Hp → VK → Prop := fun x lo hi H Q => (rSlA K x lo hi H Q ∨ rSlS x lo hi H Q) ∨ rSlL K x lo hi H Q
theorem q_sl {e : Expr} {lo hi : Option Expr} {te : TEd} {tl th : TOd} {p2 pos : Pos} (he : QE Y e te) (hl : QO Y lo tl) (hh : QO Y hi th) : QE Y (.Subscript e (.Slice lo hi none p2) pos) (tSlD te tl th) := by
  refine ⟨fun s H σ M Q S h => semE_of (pe_slice ((sl_tupA.or sl_str).or sl_list) pe_sem po_sem po_sem) (he.then_ S h fun v H1 w M1 e d r q => fun pins sh I => ?_)⟩
  refine thn (hl.run _ _ _ _ _ (S.go e d) q pins sh I) fun u s1 ⟨o, H2, I2, p, M2, e2, d2, q2⟩ => ⟨o, H2, I2, p, fun pins sh I => ?_⟩
  refine thn (hh.run _ _ _ _ _ ((S.go e d).go e2 d2) q2 pins sh I) fun u s1 ⟨o3, H3, I3, p3, M3, e3, d3, q3⟩ => ⟨o3, H3, I3, p3, ?_⟩
  have S3 := ((S.go e d).go e2 d2).go e3 d3
  have r3 := (r.ext e2).ext e3
  have tr : ∀ {v : V} {H' : Hp}, up Y H3 M3 Q v H' → up Y H M Q v H' := fun z => z.trans ((e.trans e2).trans e3)
  unfold rSlD at q3
  split at q3
  · obtain ⟨p, xs, rfl, h1, h2⟩ := r3.tup
    refine .inl (.inl ⟨p, xs, rfl, h1.sq, fun hw => ?_, fun _ a n => tr (up_tup S3 n (h2.cut o o3) q3)⟩)
    rw [h2.length] at hw
    rw [cut_whole _ hw] at q3
    exact tr (S3.here (w := .d (.tuple _)) (Fz.tup h1 h2) q3)
  · exact .inl (.inr ⟨_, r3.str, q3.1, tr (S3.here (wStr _) q3.2)⟩)
  · obtain ⟨p, xs, rfl, h1, h2⟩ := r3.lst
    exact .inr ⟨p, xs, rfl, SqL.of h1.1, fun a n => tr (up_lst S3 n (h2.cut o o3) q3)⟩
  · exact q3.elim
end
end Dl
set_option Elab.async false
set_option linter.all false
set_option maxRecDepth 100000
namespace Dl
open PySem PySem.Spec PyProof.Rows L2

section
variable {g : Gc} {i : Si} {k : Nat} {Y : Dx}
/-! ### methods of built-in types -/
abbrev RMd := W → List W → MH → (W → MH → Prop) → Prop
def tMet (ty : W → MH → Prop) (r : RMd) (to : TEd) (t : TAd) : TEd := fun σ M Q => to σ M fun w M1 => ty w M1 ∧ t σ M1 fun ws M2 => r w ws M2 Q
structure MetD (Y : Dx) (T : String) (id : String) (name : Str) (ty : W → MH → Prop) (rD : RMd) : Prop where
  go : ∃ r, PlainAttrs T ∧ Slot T name id ∧ typeOf (.builtin id) = pure (.type "method_descriptor") ∧ MtR Y.X id r ∧ (∀ {s : L2.St} {H : Hp} {σ : SD} {M : MH} {x : V} {w : W}, Std Y s H σ M → Wv Y.X.K H M x w → ty w M → tyV Y.X.K T x H) ∧
    ∀ {s : L2.St} {H : Hp} {σ : SD} {M : MH} {x : V} {w : W} {vs : List V} {ws : List W} {Q : W → MH → Prop} {R : VK}, Std Y s H σ M → Wv Y.X.K H M x w → WvA Y.X.K H M vs ws → rD w ws M Q → (∀ v H', up Y H M Q v H' → R v H') → r x vs H R
theorem q_met {T id : String} {name : Str} {ty : W → MH → Prop} {rD : RMd} {o e : Expr} {es : List Expr} {to : TEd} {t : TAd} {apos cpos : Pos} (m : MetD Y T id name ty rD) (ho : QE Y o to) (ha : QA Y (e :: es) t)
    (hbase : attributeBase o name Y.X.env (eval o Y.X.env) = eval o Y.X.env := by rfl)
    (hfew : ((backTo cpos (starEach (e :: es) Y.X.env)).all (fun x => !x.1) && (backToKw cpos (keywordEach [] Y.X.env)).all (fun x => x.1.isSome) && decide ((e :: es).length + ([] : List Keyword).length + (if ([] : List Keyword).isEmpty then 0 else 1) < 30)) = true := by rfl)
    (hline : (apos.endLine == cpos.line) = true := by rfl) (hs : starEach (e :: es) Y.X.env = (false, eval e Y.X.env) :: starEach es Y.X.env := by rfl) (hp : (backTo cpos (starEach es Y.X.env)).any (·.1) = false := by rfl) :
    QE Y (.Call (.Attribute o name apos) (e :: es) [] cpos) (tMet ty rD to t) := by
  obtain ⟨r, pa, sl, hty, hm, h1, h2⟩ := m.go
  refine ⟨fun s H σ M Q S h => semE_of (pe_bm pa sl hty hm pe_sem pa_sem hbase hfew hline hs hp) (ho.then_ S h fun x H1 w M1 e1 d1 r1 q => ⟨h1 (S.go e1 d1) r1 q.1, fun pos pins sh I => ?_⟩)⟩
  refine thn (ha.run _ _ _ _ _ (S.go e1 d1) q.2 pos pins sh I) fun us s2 ⟨vs, H2, I2, ru, ws, M2, e2, d2, r2, q2⟩ => ⟨vs, H2, I2, ru, ?_⟩
  exact h2 ((S.go e1 d1).go e2 d2) (r1.ext e2) r2 q2 fun v H' z => z.trans (e1.trans e2)
theorem q_met0 {T id : String} {name : Str} {ty : W → MH → Prop} {rD : RMd} {o : Expr} {to : TEd} {apos cpos : Pos} (m : MetD Y T id name ty rD) (ho : QE Y o to)
    (hbase : attributeBase o name Y.X.env (eval o Y.X.env) = eval o Y.X.env := by rfl) (hline : (apos.endLine == cpos.line) = true := by rfl) :
    QE Y (.Call (.Attribute o name apos) [] [] cpos) (tMet ty rD to tNilA) := by
  obtain ⟨r, pa, sl, hty, hm, h1, h2⟩ := m.go
  refine ⟨fun s H σ M Q S h => semE_of (pe_bm0 pa sl hty hm pe_sem hbase hline) (ho.then_ S h fun x H1 w M1 e1 d1 r1 q => ⟨h1 (S.go e1 d1) r1 q.1, ?_⟩)⟩
  exact h2 (S.go e1 d1) r1 (ws := []) .nil q.2 fun v H' z => z.trans e1
/-- .. of a list that may change -/
def tyMut : W → MH → Prop := fun w M => match w with | .ref p => ∃ ws, M p = some (.lst ws) | _ => False
theorem tyMut_is {s : L2.St} {H : Hp} {σ : SD} {M : MH} {x : V} {w : W} (S : Std Y s H σ M) (r : Wv Y.X.K H M x w) (h : tyMut w M) : tyV Y.X.K "list" x H := by
  unfold tyMut at h
  split at h
  · obtain ⟨ws, hm⟩ := h
    obtain rfl := (show x = _ from r)
    obtain ⟨xs, h1, h2⟩ := S.d _ _ hm
    exact .inl ⟨rfl, xs, SqL.of h1⟩
  · exact h.elim
def rApp : RMd := fun w us M Q => match w, us with
  | .ref p, [u] => ∃ ws, M p = some (.lst ws) ∧ ws.length < sizeLine ∧ Q (.d .none) (mset M p (.lst (ws ++ [u])))
  | _, _ => False
theorem WvA.append {K : PySem.W.Frag} {H : Hp} {M : MH} {xs ys : List V} {ws us : List W} (h : WvA K H M xs ws) (k : WvA K H M ys us) : WvA K H M (xs ++ ys) (ws ++ us) := by
  induction h with
  | nil => exact k
  | cons r _ ih => exact .cons r ih
theorem m_append : MetD Y "list" "list.append" "append" tyMut rApp := by
  refine ⟨rAppend, F.plainAttrs_list, F.slot_list_append, F.type_list_append, mt_append, fun S r h => tyMut_is S r h, ?_⟩
  intro s H σ M x w vs ws Q R S r rs q k
  unfold rApp at q
  split at q
  · obtain ⟨xs, hm, hz, q⟩ := q
    obtain rfl := (show x = _ from r)
    obtain ⟨ys, h1, h2⟩ := S.d _ _ hm
    obtain ⟨v, rfl, rv⟩ := rs.one
    exact ⟨_, ys, v, rfl, rfl, h1, by rw [Paired.length h2]; exact hz, k _ _ (up_set S hm (h2.append (.cons rv .nil)) wNone q)⟩
  · exact q.elim
end
end Dl
set_option Elab.async false
set_option linter.all false
set_option maxRecDepth 100000
namespace HT
open PySem PySem.Spec PyProof.Rows
section
variable {prog : Program} {w : World} {A : Around} {E : Value → Shared → Prop} {s : Shared}
theorem rv_pick (xs : Array Value) : ((List.range xs.size).filterMap fun (m : Nat) => xs[(((xs.size : Nat) : Int) - 1 + (m : Int) * (-1)).toNat]?).toArray = xs.toList.reverse.toArray := by
  have cg : ∀ (l : List Nat) (f g : Nat → Option Value), (∀ m ∈ l, f m = g m) → l.filterMap f = l.filterMap g := by
    intro l f g h
    induction l with
    | nil => rfl
    | cons a l ih => rw [List.filterMap_cons, List.filterMap_cons, h a List.mem_cons_self, ih fun m hm => h m (List.mem_cons_of_mem _ hm)]
  have e : (List.range xs.size).filterMap (fun (m : Nat) => xs[(((xs.size : Nat) : Int) - 1 + (m : Int) * (-1)).toNat]?) = (List.range xs.size).filterMap (fun m => xs.toList.reverse[m]?) := by
    apply cg
    intro m hm
    have hm' : m < xs.size := List.mem_range.mp hm
    rw [List.getElem?_reverse (by simpa using hm'), Array.getElem?_toList]
    congr 1
    rw [Array.length_toList]
    omega
  have full : ∀ (l : List Value), (List.range l.length).filterMap (fun m => l[m]?) = l := by
    intro l
    induction l with
    | nil => rfl
    | cons a l ih =>
      rw [List.length_cons, List.range_succ_eq_map, List.filterMap_cons, List.filterMap_map]
      simp only [List.getElem?_cons_zero]
      congr 1
  have := full xs.toList.reverse
  rw [List.length_reverse, Array.length_toList] at this
  rw [e, this]
theorem rv_applied {sl : Addr} {u : Tok} {n : Nat} {Q : Int × Int × Nat → Shared → Prop} (hs : s.heap.IsSliceOf sl .none .none (.int (-1) u)) (h : Q (((n : Nat) : Int) - 1, -1, n) s) :
    wpAny (model prog w) A (Builtin.Slice.sliceApplied (.ref sl) (pure (n : Int))) Q E s := by
  obtain ⟨os, hos, hcs, hds⟩ := id hs
  unfold Builtin.Slice.sliceApplied Builtin.Slice.sliceFields
  refine wpAny_bind (wpAny_bind (wpAny_field hos hds (x := .none) rfl (wpAny_bind (wpAny_field hos hds (x := .none) rfl (wpAny_bind (wpAny_field hos hds (x := .int (-1) u) rfl (wpAny_pure ?_)))))))
  refine wpAny_bind (slicePart_int ?_)
  show wpAny _ _ (if ((-1 : Int) == 0) = true then _ else _) _ _ s
  rw [if_neg (by decide)]
  refine wpAny_bind (slicePart_none (wpAny_bind (slicePart_none (wpAny_bind (wpAny_pure ?_)))))
  show wpAny _ _ (pure (((n : Nat) : Int) - 1, (-1 : Int), Builtin.Slice.slicePlaces (((n : Nat) : Int) - 1) (-1) (-1))) _ _ s
  have e : Builtin.Slice.slicePlaces (((n : Nat) : Int) - 1) (-1) (-1) = n := by
    unfold Builtin.Slice.slicePlaces
    rw [if_neg (by decide)]
    split
    · rw [show (-(-1) : Int) = 1 by decide, Int.ediv_one]
      omega
    · omega
  rw [e]
  exact wpAny_pure h
theorem rv_get {t sl : Addr} {items : Array Value} {u : Tok} {Q : Value → Shared → Prop} (ht : IsTup s.heap t items) (hs : s.heap.IsSliceOf sl .none .none (.int (-1) u))
    (h : Q (.ref s.heap.objs.size) { s with heap := s.heap.push { cls := .type "tuple", data := .seq items.toList.reverse.toArray } }) (hz : items.size ≤ sizeLine) : wpAny (model prog w) A (getItem (.ref t) (.ref sl)) Q E s := by
  have fit : sizeOk (.seq items.toList.reverse.toArray) := by
    show items.toList.reverse.toArray.size ≤ sizeLine
    simpa using hz
  have ty : s.TypeIs (.ref sl) "slice" := by
    obtain ⟨os, hos, hcs, _⟩ := id hs
    exact ⟨os, hos, hcs⟩
  unfold getItem
  try with_reducible refine wpAny_holding ?_
  first | refine wpAny_bind (wpAny_pure ?_) | skip
  refine wpAny_bind (wpAny_sequenceKey ht.typeIs (by decide) (wpAny_bind (wpAny_callSpecial?_slot (name := Str.ofString "__getitem__") ht.typeIs PyProof.Rows.slot_tuple_getitem (wpAny_call_entry PyProof.Rows.slot_tuple_getitem ht.typeIs entry_tuple_getitem ?_ (args_tuple_getitem _ _)))))
  show wpAny _ _ (Builtin.Tuple.tupleItemsOf (.ref t) >>= _) _ _ s
  refine wpAny_bind (tupleItemsOf_ ht (wpAny_bind (wpAny_typeOf ty ?_)))
  rw [if_pos (by decide)]
  refine wpAny_bind (rv_applied hs ?_)
  show wpAny _ _ (if ((((items.size : Nat) : Int) - 1) == 0 && (-1 : Int) == 1 && items.size == items.size) = true then _ else _) _ _ s
  rw [if_neg (by simp), rv_pick]
  first
    | exact wpAny_bind (m := Builtin.Tuple.tupleExact _) (wpAny_newObj_type (wpAny_pure ⟨_, rfl, wpAny_pure h⟩) fit)
    | exact wpAny_bind (m := Builtin.Tuple.tupleExact _) (wpAny_newObj_type (wpAny_bind (wpAny_pure (wpAny_pure ⟨_, rfl, wpAny_pure h⟩))) fit)
    | exact wpAny_bind (wpAny_bind (m := Builtin.Tuple.tupleExact _) (wpAny_newObj_type (wpAny_pure (wpAny_pure ⟨_, rfl, wpAny_pure h⟩)) fit))
    | exact wpAny_bind (wpAny_bind (m := Builtin.Tuple.tupleExact _) (wpAny_newObj_type (wpAny_pure ⟨_, rfl, wpAny_pure h⟩) fit))
end
end HT
namespace Dl
open PySem PySem.Spec PyProof.Rows L2
section
variable {g : Gc} {i : Si} {k : Nat} {Y : Dx}
theorem FzA.reverse {K : PySem.W.Frag} {H : Hp} {M : MH} {vs : List V} {ds : List PyData} (h : FzA K H M vs ds) : FzA K H M vs.reverse ds.reverse := by
  induction ds generalizing vs with
  | nil => cases h; exact .nil
  | cons d ds ih =>
    cases h with
    | cons r t =>
      rw [List.reverse_cons, List.reverse_cons]
      exact (ih t).append (.cons r .nil)
/-- t[::n] of a tuple, n = -1 -/
def tRev (te tn : TEd) : TEd := fun σ M Q => te σ M fun w M1 => tn σ M1 fun n M2 => match w, n with | .d (.tuple ds), .d (.int j) => j = -1 ∧ Q (.d (.tuple ds.reverse)) M2 | _, _ => False
theorem tRev_get {w n : W} {M : MH} {Q : W → MH → Prop} (h : match w, n with | .d (.tuple ds), .d (.int j) => j = -1 ∧ Q (.d (.tuple ds.reverse)) M | _, _ => False) : ∃ ds, w = .d (.tuple ds) ∧ n = .d (.int (-1)) ∧ Q (.d (.tuple ds.reverse)) M := by
  split at h
  · obtain ⟨rfl, h⟩ := h
    exact ⟨_, rfl, rfl, h⟩
  · exact h.elim
theorem q_rev {e n : Expr} {te tn : TEd} {p2 pos : Pos} (he : QE Y e te) (hn : QE Y n tn) : QE Y (.Subscript e (.Slice none none (some n) p2) pos) (tRev te tn) := by
  refine ⟨fun s H σ M Q S h pins sh I => ?_⟩
  refine Subscript_ (thn (he.run _ _ _ _ _ S h pins sh I) fun v s1 ⟨x, H1, I1, r1, w, M1, e1, d1, rw1, q⟩ => ?_)
  refine wpAny_Slice ?_
  rw [evalPart_none]
  refine wpAny_pure (wpAny_pure ?_)
  rw [evalPart_some]
  refine thn (hn.run _ _ _ _ _ (S.go e1 d1) q pins s1 I1) fun u s2 ⟨y, H2, I2, r2, w2, M2, e2, d2, rw2, q2⟩ => ?_
  obtain ⟨ds, rfl, rfl, q3⟩ := tRev_get q2
  obtain ⟨p, xs, rfl, h1, h2⟩ := (rw1.ext e2).tup
  cases r1
  cases (show y = .int (-1) from rw2.int)
  obtain ⟨tk, rfl⟩ := r2
  obtain ⟨its, rv, ht, hz⟩ := I2.tuple h1.sq
  have I3 : Inv Y.X pins s H2 { s2 with heap := s2.heap.push { cls := .type "slice", data := .fields #[.none, .none, .int (-1) tk] } } := I2.kept (t' := s2.toks) fun b o q => Heap.get?_push_of_some _ q
  have ht3 := ht.push { cls := .type "slice", data := .fields #[.none, .none, .int (-1) tk] }
  refine tail_any (ops := [.ref p, .ref s2.heap.objs.size]) ht3.typeIs PyProof.Rows.slot_tuple_getitem.lookup (HT.rv_get ht3 (Heap.IsSliceOf.new ..) ?_ (by rw [List.size_toArray, ← rv.length]; exact hz)) (by with_unfolding_all rfl)
  have S3 := (S.go e1 d1).go e2 d2
  have fr := I3.fresh
  have z := up_tup (Q := Q) S3 fr h2.reverse q3
  exact ⟨.ref _, _, I3.laid (t' := s2.toks) (o := .tup xs.reverse) (fun b ob q => Heap.get?_push_of_some _ q) (Nat.le_refl _) ⟨by rw [List.length_reverse]; exact hz, _, rv.reverse, IsTup.new _ _⟩, rfl, z.trans (e1.trans e2)⟩
end
end Dl
set_option Elab.async false
set_option linter.all false
set_option maxRecDepth 100000
namespace Dl
open PySem PySem.Spec PyProof.Rows L2

/-! ### constants of the text, looked at in the fragment -/
mutual
def chkD (K : PySem.W.Frag) : Nat → Value → PyData → Bool
  | _, .none, .none => true
  | _, .bool a, .bool b => a == b
  | _, .int a _, .int b => a == b
  | _, .str a _, .str b => a == b
  | f + 1, .ref a, .tuple ds => match K.lookup a with
    | some ⟨.type T, _, .seq its _, _⟩ => T == "tuple" && decide (its.size ≤ sizeLine) && chkA K f its.toList ds
    | _ => false
  | _, _, _ => false
def chkA (K : PySem.W.Frag) : Nat → List Value → List PyData → Bool
  | _, [], [] => true
  | f + 1, u :: us, d :: ds => chkD K f u d && chkA K f us ds
  | _, _, _ => false
end
mutual
theorem chkD_ok (K : PySem.W.Frag) : ∀ (f : Nat) (u : Value) (d : PyData), chkD K f u d = true → ∃ v, RelV v u ∧ ∀ H M, Fz K H M v d
  | f, u, .none, h => by
    cases f <;> cases u <;> first | exact ⟨.non, rfl, fun _ _ => .non⟩ | (simp only [chkD] at h; cases h)
  | f, u, .bool b, h => by
    cases f <;> cases u <;> first | (simp only [chkD, beq_iff_eq] at h; subst h; exact ⟨.bl _, rfl, fun _ _ => .bl _⟩) | (simp only [chkD] at h; cases h)
  | f, u, .int b, h => by
    cases f <;> cases u <;> first | (simp only [chkD, beq_iff_eq] at h; subst h; exact ⟨.int _, ⟨_, rfl⟩, fun _ _ => .int _⟩) | (simp only [chkD] at h; cases h)
  | f, u, .str b, h => by
    cases f <;> cases u <;> first | (simp only [chkD, beq_iff_eq] at h; subst h; exact ⟨.str _, ⟨_, rfl⟩, fun _ _ => .str _⟩) | (simp only [chkD] at h; cases h)
  | f, u, .list _, h => by cases f <;> cases u <;> (simp only [chkD] at h; cases h)
  | f, u, .dict _, h => by cases f <;> cases u <;> (simp only [chkD] at h; cases h)
  | 0, u, .tuple _, h => by cases u <;> (simp only [chkD] at h; cases h)
  | f + 1, u, .tuple ds, h => by
    cases u with
    | ref a =>
      simp only [chkD] at h
      split at h
      · rename_i T dd its n sl hl
        simp only [Bool.and_eq_true, beq_iff_eq, decide_eq_true_eq] at h
        obtain ⟨⟨hT, hz⟩, hA⟩ := h
        subst hT
        obtain ⟨vs, r, q⟩ := chkA_ok K f its.toList ds hA
        exact ⟨.ref a, rfl, fun H M => .tup (.inr (.inr ⟨_, its, n, hl, rfl, rfl, hz, r⟩)) (q H M)⟩
      · cases h
    | _ => simp only [chkD] at h; cases h
theorem chkA_ok (K : PySem.W.Frag) : ∀ (f : Nat) (us : List Value) (ds : List PyData), chkA K f us ds = true → ∃ vs, Vals vs us ∧ ∀ H M, FzA K H M vs ds
  | _, [], [], _ => ⟨[], .nil, fun _ _ => .nil⟩
  | 0, [], _ :: _, h => by simp only [chkA] at h; cases h
  | _ + 1, [], _ :: _, h => by simp only [chkA] at h; cases h
  | 0, _ :: _, [], h => by simp only [chkA] at h; cases h
  | _ + 1, _ :: _, [], h => by simp only [chkA] at h; cases h
  | 0, _ :: _, _ :: _, h => by simp only [chkA] at h; cases h
  | f + 1, u :: us, d :: ds, h => by
    simp only [chkA, Bool.and_eq_true] at h
    obtain ⟨v, r, q⟩ := chkD_ok K f u d h.1
    obtain ⟨vs, rs, qs⟩ := chkA_ok K f us ds h.2
    exact ⟨v :: vs, .cons r rs, fun H M => .cons (q H M) (qs H M)⟩
end
theorem cst_of {g : Gc} {x : Str} {d : PyData} {f : Nat} {u : Value} (m : g.mg x = some u) (c : chkD g.K f u d = true) : Cst g x d := by
  obtain ⟨v, r, q⟩ := chkD_ok _ f u d c
  exact ⟨v, u, m, r, q⟩

section
variable {g : Gc} {i : Si} {k : Nat} {Y : Dx}
/-! ### texts: order, within; a tuple some times -/
def rLeS : R2d := fun a b M Q => match a, b with
  | .d (.str x), .d (.str y) => Q (.d (.bool (!decide (y.cps.toList < x.cps.toList)))) M
  | _, _ => False
theorem o_leS : Op2 Y (compareOp .LtE) rLeS := by
  intro s H σ M x y a b Q S rx ry q
  unfold rLeS at q
  split at q
  · exact semO_of op_le_str ⟨_, _, rx.str, ry.str, S.here (wBool _) q⟩
  · exact q.elim
def rLtS : R2d := fun a b M Q => match a, b with
  | .d (.str x), .d (.str y) => Q (.d (.bool (decide (x.cps.toList < y.cps.toList)))) M
  | _, _ => False
theorem o_ltS : Op2 Y (compareOp .Lt) rLtS := by
  intro s H σ M x y a b Q S rx ry q
  unfold rLtS at q
  split at q
  · exact semO_of op_lt_str ⟨_, _, rx.str, ry.str, S.here (wBool _) q⟩
  · exact q.elim
def within (x y : Str) : Bool := !(Builtin.Str.occurrences y x 0 y.length 1).isEmpty
def rInS : R2d := fun a b M Q => match a, b with
  | .d (.str x), .d (.str y) => Q (.d (.bool (within x y))) M
  | _, _ => False
theorem o_inS : Op2 Y (compareOp .In) rInS := by
  intro s H σ M x y a b Q S rx ry q
  unfold rInS at q
  split at q
  · exact semO_of op_in_str ⟨_, _, rx.str, ry.str, S.here (wBool _) q⟩
  · exact q.elim
theorem within_one (c : Nat) (y : Str) : within ⟨#[c]⟩ y = decide (c ∈ y.cps.toList) := StrLaws.found_one y c
def rRepD : R2d := fun a b M Q => match a, b with
  | .d (.tuple ds), .d (.int n) => ds ≠ [] ∧ 2 ≤ n ∧ n ≤ 1000 ∧ ds.length ≤ 1000 ∧ Q (.d (.tuple (List.replicate n.toNat ds).flatten)) M
  | _, _ => False
theorem FzA.rep {K : PySem.W.Frag} {H : Hp} {M : MH} {vs : List V} {ds : List PyData} (h : FzA K H M vs ds) : ∀ n : Nat, FzA K H M (List.replicate n vs).flatten (List.replicate n ds).flatten
  | 0 => .nil
  | n + 1 => by
    rw [List.replicate_succ, List.replicate_succ, List.flatten_cons, List.flatten_cons]
    exact h.append (FzA.rep h n)
theorem o_rep : Op2 Y (binaryOp .Mult) rRepD := by
  intro s H σ M x y a b Q S rx ry q
  unfold rRepD at q
  split at q
  · obtain ⟨p, xs, rfl, h1, h2⟩ := rx.tup
    obtain ⟨q1, q2, q3, q4, q5⟩ := q
    refine semO_of op_repT ⟨p, _, xs, rfl, ry.int, h1.sq, ?_, q2, q3, by rw [h2.length]; exact q4, fun r n => up_tup S n (h2.rep _) q5⟩
    rintro rfl
    cases h2
    exact q1 rfl
  · exact q.elim
/-- a way that is not gone -/
def tNever : TSd := fun _ _ _ => False
theorem s_raise {a b : Option Expr} {pos : Pos} : QS Y (.Raise a b pos) tNever := ⟨fun _ _ _ _ _ _ h => h.elim⟩
/-- a def that is not called at this depth -/
def spNo : SpD := fun _ _ _ _ => False
theorem df_no {g : Gc} {x : Str} {st : Stmt} {ps : List Str} (P : Pl g x st) (hsy : SysOk g.base) {i : Si} (Sc : FnScope i.N ps (defScope st)) (ok : ScOk i (defScope st))
    (hb : ∀ (kV doc pm : Value) (an : Option Addr) (cdv ct : Value) (us : List Value), us.length = ps.length → bindArgs (PySem.W.fnOf x x (defArgs st) (defBody st) (defScope st) .none kV doc pm an cdv ct) ⟨us, []⟩ = pure (ps.zip us))
    (body : ∃ t, ∀ Y : Dx, Fm g i 0 Y → QSs Y (defBody st) t) : Df g 1 x ps spNo i.hot :=
  df_of (k := 0) P hsy Sc ok hb (fun _ _ _ _ h => h.elim) fun _ _ _ _ _ _ _ h => h.elim
end
end Dl
set_option Elab.async false
set_option linter.all false
set_option maxRecDepth 100000
/-! sizes of data -/
namespace Dl
open PySem PySem.Spec PyProof.Rows L2
mutual
/-- leaves that are not too great -/
def okL (B : Nat) : PyData → Bool
  | .none | .bool _ => true
  | .int i => decide (i.natAbs < B)
  | .str x => PyData.strOk x
  | .list xs | .tuple xs => okLA B xs
  | .dict kvs => kvs.isEmpty
def okLA (B : Nat) : List PyData → Bool
  | [] => true
  | x :: xs => okL B x && okLA B xs
end
theorem okLA_all {B : Nat} : ∀ xs : List PyData, okLA B xs = xs.all (okL B)
  | [] => rfl
  | x :: xs => by rw [okLA, okLA_all xs]; rfl
theorem okLA_iff {B : Nat} {xs : List PyData} : okLA B xs = true ↔ ∀ x ∈ xs, okL B x = true := by rw [okLA_all, List.all_eq_true]
mutual
theorem okL_mono {B C : Nat} (h : B ≤ C) : ∀ x : PyData, okL B x = true → okL C x = true
  | .none, _ => rfl
  | .bool _, _ => rfl
  | .int i, q => by simp only [okL, decide_eq_true_eq] at q ⊢; omega
  | .str _, q => q
  | .list xs, q => okLA_mono h xs q
  | .tuple xs, q => okLA_mono h xs q
  | .dict _, q => q
theorem okLA_mono {B C : Nat} (h : B ≤ C) : ∀ xs : List PyData, okLA B xs = true → okLA C xs = true
  | [], _ => rfl
  | x :: xs, q => by
    simp only [okLA, Bool.and_eq_true] at q ⊢
    exact ⟨okL_mono h x q.1, okLA_mono h xs q.2⟩
end
theorem int_show_le {i : Int} {n : Nat} (h : i.natAbs < 2 ^ n) (h0 : 0 < n) : (PyData.shown (.int i)).length ≤ n + 1 := by
  show (Str.ofString (toString i)).length ≤ _
  rw [PySem.ofString_length]
  exact int_text_length_le h0 (PySem.Flt.log2_lt_of h0 h)
mutual
theorem okL_show {B : Nat} (h : B ≤ 2 ^ 198) : ∀ x : PyData, okL B x = true → x.showable = true ∧ x.leavesShort 199 = true
  | .none, _ => ⟨rfl, rfl⟩
  | .bool _, _ => ⟨rfl, rfl⟩
  | .int i, q => by
    simp only [okL, decide_eq_true_eq] at q
    have q' := Nat.lt_of_lt_of_le q h
    exact ⟨by simp only [PyData.showable, decide_eq_true_eq]; exact Nat.lt_trans (log2_lt (by decide) q') (by decide), by simp only [PyData.leavesShort, decide_eq_true_eq]; exact int_show_le q' (by decide)⟩
  | .str x, q => by
    refine ⟨rfl, ?_⟩
    simp only [okL, PyData.strOk, Array.all_eq_true] at q
    simp only [PyData.leavesShort, List.all_eq_true, decide_eq_true_eq]
    intro c hc
    obtain ⟨i, hi, rfl⟩ := Array.mem_iff_getElem.mp (Array.mem_toList_iff.mp hc)
    have := q i hi
    simp at this
    exact Nat.lt_trans this (by decide)
  | .list xs, q => okLA_show h xs q
  | .tuple xs, q => okLA_show h xs q
  | .dict [], q => ⟨rfl, rfl⟩
theorem okLA_show {B : Nat} (h : B ≤ 2 ^ 198) : ∀ xs : List PyData, okLA B xs = true → PyData.showableAll xs = true ∧ PyData.leavesShortAll 199 xs = true
  | [], _ => ⟨rfl, rfl⟩
  | x :: xs, q => by
    simp only [okLA, Bool.and_eq_true] at q
    obtain ⟨a, b⟩ := okL_show h x q.1
    obtain ⟨c, d⟩ := okLA_show h xs q.2
    exact ⟨by simp [PyData.showableAll, a, c], by simp [PyData.leavesShortAll, b, d]⟩
end
theorem lay_mem : ∀ {ds : List PyData} {d : PyData}, PyData.canLayAll0 ds = true → d ∈ ds → d.canLay0 = true
  | x :: xs, d, h, m => by
    simp only [PyData.canLayAll0, Bool.and_eq_true] at h
    rcases List.mem_cons.mp m with e | m
    · rw [e]; exact h.1
    · exact lay_mem h.2 m
theorem wAll_app : ∀ xs ys : List PyData, PyData.weightAll (xs ++ ys) = PyData.weightAll xs + PyData.weightAll ys
  | [], ys => by simp [PyData.weightAll]
  | x :: xs, ys => by
    rw [List.cons_append]
    simp only [PyData.weightAll]
    rw [wAll_app xs ys]
    omega
theorem dAll_app : ∀ xs ys : List PyData, PyData.depthAll (xs ++ ys) = max (PyData.depthAll xs) (PyData.depthAll ys)
  | [], ys => by simp [PyData.depthAll]
  | x :: xs, ys => by
    rw [List.cons_append]
    simp only [PyData.depthAll]
    rw [dAll_app xs ys]
    omega
theorem okLA_app {B : Nat} {xs ys : List PyData} : okLA B (xs ++ ys) = (okLA B xs && okLA B ys) := by rw [okLA_all, okLA_all, okLA_all, List.all_append]
/-- a list within sizes -/
structure FnA (B w d : Nat) (xs : List PyData) : Prop where
  o : okLA B xs = true
  w : PyData.weightAll xs ≤ w
  d : PyData.depthAll xs ≤ d
structure Fn (B w d : Nat) (x : PyData) : Prop where
  o : okL B x = true
  w : x.weight ≤ w
  d : x.depth ≤ d
theorem Fn.mono {B w d B' w' d' : Nat} {x : PyData} (h : Fn B w d x) (hB : B ≤ B') (hw : w ≤ w') (hd : d ≤ d') : Fn B' w' d' x := ⟨okL_mono hB x h.o, Nat.le_trans h.w hw, Nat.le_trans h.d hd⟩
theorem FnA.mono {B w d B' w' d' : Nat} {x : List PyData} (h : FnA B w d x) (hB : B ≤ B') (hw : w ≤ w') (hd : d ≤ d') : FnA B' w' d' x := ⟨okLA_mono hB x h.o, Nat.le_trans h.w hw, Nat.le_trans h.d hd⟩
theorem FnA.nil {B w d : Nat} : FnA B w d [] := ⟨rfl, Nat.zero_le _, Nat.zero_le _⟩
theorem FnA.app {B w w' d : Nat} {xs ys : List PyData} (h : FnA B w d xs) (k : FnA B w' d ys) : FnA B (w + w') d (xs ++ ys) :=
  ⟨by rw [okLA_app, h.o, k.o]; rfl, by rw [wAll_app]; exact Nat.add_le_add h.w k.w, by rw [dAll_app]; exact Nat.max_le.mpr ⟨h.d, k.d⟩⟩
theorem FnA.one {B w d : Nat} {x : PyData} (h : Fn B w d x) : FnA B (w + 1) d [x] := ⟨by simp [okLA, h.o], by simp only [PyData.weightAll]; have := h.w; omega, by simp only [PyData.depthAll]; have := h.d; omega⟩
theorem FnA.take {B w d : Nat} {xs : List PyData} (h : FnA B w d xs) (n : Nat) : FnA B w d (xs.take n) := by
  have e := List.take_append_drop n xs
  refine ⟨?_, ?_, ?_⟩
  · have := h.o; rw [← e, okLA_app, Bool.and_eq_true] at this; exact this.1
  · have := h.w; rw [← e, wAll_app] at this; omega
  · have := h.d; rw [← e, dAll_app] at this; omega
theorem FnA.drop {B w d : Nat} {xs : List PyData} (h : FnA B w d xs) (n : Nat) : FnA B w d (xs.drop n) := by
  have e := List.take_append_drop n xs
  refine ⟨?_, ?_, ?_⟩
  · have := h.o; rw [← e, okLA_app, Bool.and_eq_true] at this; exact this.2
  · have := h.w; rw [← e, wAll_app] at this; omega
  · have := h.d; rw [← e, dAll_app] at this; omega
theorem FnA.cut {B w d : Nat} {xs : List PyData} (h : FnA B w d xs) (lo hi : Option Int) : FnA B w d (cut xs lo hi) := (h.drop _).take _
theorem FnA.rev {B w d : Nat} {xs : List PyData} (h : FnA B w d xs) : FnA B w d xs.reverse := by
  have : okLA B xs.reverse = okLA B xs ∧ PyData.weightAll xs.reverse = PyData.weightAll xs ∧ PyData.depthAll xs.reverse = PyData.depthAll xs := by
    induction xs generalizing w d with
    | nil => exact ⟨rfl, rfl, rfl⟩
    | cons x xs ih =>
      obtain ⟨a, b, c⟩ := ih (w := PyData.weightAll xs) (d := PyData.depthAll xs) ⟨by have := h.o; simp only [okLA, Bool.and_eq_true] at this; exact this.2, Nat.le_refl _, Nat.le_refl _⟩
      rw [List.reverse_cons, okLA_app, wAll_app, dAll_app, a, b, c]
      refine ⟨by simp [okLA, Bool.and_comm], ?_, ?_⟩
      · simp only [PyData.weightAll]; omega
      · simp only [PyData.depthAll]; omega
  exact ⟨by rw [this.1]; exact h.o, by rw [this.2.1]; exact h.w, by rw [this.2.2]; exact h.d⟩
theorem FnA.mem {B w d : Nat} {xs : List PyData} (h : FnA B w d xs) {x : PyData} (m : x ∈ xs) : Fn B w d x := by
  obtain ⟨a, b, rfl⟩ := List.append_of_mem m
  refine ⟨?_, ?_, ?_⟩
  · exact okLA_iff.mp h.o x m
  · have := h.w; rw [wAll_app] at this; simp only [PyData.weightAll] at this; omega
  · have := h.d; rw [dAll_app] at this; simp only [PyData.depthAll] at this; omega
theorem FnA.len {B w d : Nat} : ∀ {xs : List PyData}, FnA B w d xs → xs.length ≤ w := by
  intro xs h
  have : ∀ ys : List PyData, ys.length ≤ PyData.weightAll ys := by
    intro ys
    induction ys with
    | nil => exact Nat.le_refl _
    | cons y ys ih => simp only [PyData.weightAll, List.length_cons]; omega
  exact Nat.le_trans (this xs) h.w
theorem FnA.tup {B w d : Nat} {xs : List PyData} (h : FnA B w d xs) : Fn B w (d + 1) (.tuple xs) := ⟨h.o, h.w, by simp only [PyData.depth]; have := h.d; omega⟩
theorem FnA.lst {B w d : Nat} {xs : List PyData} (h : FnA B w d xs) : Fn B w (d + 1) (.list xs) := ⟨h.o, h.w, by simp only [PyData.depth]; have := h.d; omega⟩
theorem Fn.items {B w d : Nat} {xs : List PyData} (h : Fn B w (d + 1) (.tuple xs)) : FnA B w d xs := ⟨h.o, h.w, by have := h.d; simp only [PyData.depth] at this; omega⟩
theorem Fn.pos {B w d : Nat} {xs : List PyData} (h : Fn B w d (.tuple xs)) : 1 ≤ d := by have := h.d; simp only [PyData.depth] at this; omega
theorem cut_to {α : Type} (xs : List α) (k : Nat) : cut xs none (some (k : Int)) = xs.take k := by
  unfold cut
  rw [HT.sIx_none, HT.sIx_nat, List.drop_zero, Nat.sub_zero]
  by_cases h : k ≤ xs.length
  · rw [Nat.min_eq_left h]
  · rw [Nat.min_eq_right (by omega), List.take_length, List.take_of_length_le (by omega)]
theorem cut_from {α : Type} (xs : List α) (k : Nat) : cut xs (some (k : Int)) none = xs.drop k := by
  unfold cut
  rw [HT.sIx_none, HT.sIx_nat]
  by_cases h : k ≤ xs.length
  · rw [Nat.min_eq_left h, List.take_of_length_le (by rw [List.length_drop]; omega)]
  · rw [Nat.min_eq_right (by omega), Nat.sub_self, List.take_zero, List.drop_of_length_le (by omega)]
theorem Fn.show {B w d : Nat} {x : PyData} (h : Fn B w d x) (hB : B ≤ 2 ^ 198) (hw : w ≤ 80000) (hd : d ≤ 100) : showOk x := by
  obtain ⟨a, b⟩ := okL_show hB x h.o
  refine ⟨a, ?_, Nat.le_trans h.d hd⟩
  have e := PyData.shown_le 199 (by decide) x b
  have : (199 + 2) * x.weight ≤ 201 * 80000 := Nat.mul_le_mul_left _ (Nat.le_trans h.w hw)
  rw [sizeLine_eq]
  omega
theorem Fn.int {B w d : Nat} {i : Int} (h : i.natAbs < B) (hB : B ≤ 2 ^ 198) (hw : 198 ≤ w) : Fn B w d (.int i) := by
  refine ⟨by simp [okL, h], ?_, by simp [PyData.depth]⟩
  have := log2_lt (x := i) (by decide) (Nat.lt_of_lt_of_le h hB)
  simp only [PyData.weight]
  split <;> omega
theorem Fn.strW {B w d : Nat} {z : Str} (h : PyData.strOk z = true) (hw : z.length ≤ w) : Fn B w d (.str z) := ⟨h, hw, Nat.zero_le _⟩
theorem strOk_app {x y : Str} (h : PyData.strOk x = true) (k : PyData.strOk y = true) : PyData.strOk (x ++ y) = true := by
  show (x.cps ++ y.cps).all _ = true
  rw [Array.all_append]
  simp only [PyData.strOk] at h k
  rw [h, k]
  rfl
theorem strOk_cut {x : Str} (h : PyData.strOk x = true) (lo hi : Option Int) : PyData.strOk (cutS x lo hi) = true := by
  simp only [PyData.strOk, Array.all_eq_true_iff_forall_mem, decide_eq_true_eq] at h ⊢
  intro c hc
  unfold cutS at hc
  simp only [List.mem_toArray] at hc
  exact h c (Array.mem_toList_iff.mp (List.mem_of_mem_drop (List.mem_of_mem_take hc)))
end Dl
set_option Elab.async false
set_option linter.all false
set_option maxRecDepth 100000
/-! a dict of the text, its keys texts: within -/
namespace Dl
open PySem PySem.Spec PyProof.Rows L2
def chkK : List DictEntry → List Str → Bool
  | [], [] => true
  | e :: r, k :: ks => (match e.key with | .str x _ => x == k | _ => false) && chkK r ks
  | _, _ => false
theorem chkK_ok (z : Str) : ∀ (l : List DictEntry) (ks : List Str), chkK l ks = true → (l.find? (·.key.isStr z)).isSome = ks.contains z ∧ l.any (·.refKey) = false
  | [], [], _ => ⟨rfl, rfl⟩
  | e :: r, [], h => by simp [chkK] at h
  | [], k :: ks, h => by simp [chkK] at h
  | e :: r, k :: ks, h => by
    simp only [chkK, Bool.and_eq_true] at h
    obtain ⟨h1, h2⟩ := chkK_ok z r ks h.2
    obtain ⟨hh, key, val⟩ := e
    cases key with
    | str x t =>
      have hx : x = k := eq_of_beq h.1
      subst hx
      have e1 : (Value.str x t).isStr z = (x == z) := rfl
      constructor
      · rw [List.find?_cons]
        simp only [e1]
        rw [List.contains_cons]
        by_cases q : x = z
        · subst q; simp
        · have q1 : (x == z) = false := beq_eq_false_iff_ne.mpr q
          have q2 : (z == x) = false := beq_eq_false_iff_ne.mpr fun w => q w.symm
          rw [q1, q2, Bool.false_or]
          exact h1
      · rw [List.any_cons, h2]
        rfl
    | _ => exact absurd h.1 (by simp)
structure KTab (g : Gc) (x : Str) (d : Addr) (ks : List Str) : Prop where
  m : g.mg x = some (.ref d)
  k : ∃ es n, KDict g.K g.w d es n
  s : ∀ z, ∃ r, PySem.W.nsIn g.K d z = some r ∧ r.isSome = ks.contains z
theorem ktab_of {g : Gc} {x : Str} {d : Addr} {es : Array DictEntry} {n : Nat} {ks : List Str} (m : g.mg x = some (.ref d)) (at_ : g.K.lookup d = some ⟨.type "dict", none, .dict es n, #[]⟩) (lit : PySem.W.KeysLit g.w.params es.toList) (low : (d == sysModules) = false) (c : chkK es.toList ks = true) : KTab g x d ks := by
  refine ⟨m, ⟨es, n, at_, lit, low⟩, fun z => ?_⟩
  obtain ⟨h1, h2⟩ := chkK_ok z es.toList ks c
  unfold PySem.W.nsIn
  rw [at_]
  simp only
  cases hf : es.toList.find? (·.key.isStr z) with
  | some e => exact ⟨some e.val, rfl, by rw [hf] at h1; exact h1⟩
  | none =>
    rw [if_neg (by rw [h2]; exact Bool.false_ne_true)]
    exact ⟨none, rfl, by rw [hf] at h1; exact h1⟩
section
variable {g : Gc} {i : Si} {k : Nat} {Y : Dx}
def tRef (d : Addr) : TEd := fun _ M Q => Q (.ref d) M
theorem q_ref (F : Fm g i k Y) (j : Nat) {x : Str} {pos : Pos} {d : Addr} {ks : List Str} (C : KTab g x d ks) (hj : i.gls[j]? = some x := by rfl) : QE Y (.Name x pos) (tRef d) := by
  obtain ⟨h1, h2, h3⟩ := F.glo j x hj
  exact ⟨fun s H σ M Q S h => semE_of (pe_glob h1 (by rw [F.hmg]; exact C.m) (show RelV (.ref d) (.ref d) from rfl) h2) (S.here (w := .ref d) rfl h)⟩
def rKd (d : Addr) (ks : List Str) (neg : Bool) : R2d := fun a b M Q => match a, b with
  | .d (.str z), .ref p => p = d ∧ Q (.d (.bool (if neg then !ks.contains z else ks.contains z))) M
  | _, _ => False
theorem o_inK (F : Fm g i k Y) {x : Str} {d : Addr} {ks : List Str} (C : KTab g x d ks) : Op2 Y (compareOp .In) (rKd d ks false) := by
  intro s H σ M x y a b Q S rx ry q
  unfold rKd at q
  split at q
  · obtain ⟨es, n, D⟩ := C.k
    rw [← F.hK, ← F.hw] at D
    obtain ⟨rfl, q⟩ := q
    obtain ⟨r, e, er⟩ := C.s _
    refine semO_of (op_in_kd D) ⟨_, r, rx.str, ry, by rw [F.hK]; exact e, ?_⟩
    rw [er]
    exact S.here (wBool _) q
  · exact q.elim
theorem o_notInK (F : Fm g i k Y) {x : Str} {d : Addr} {ks : List Str} (C : KTab g x d ks) : Op2 Y (compareOp .NotIn) (rKd d ks true) := by
  intro s H σ M x y a b Q S rx ry q
  unfold rKd at q
  split at q
  · obtain ⟨es, n, D⟩ := C.k
    rw [← F.hK, ← F.hw] at D
    obtain ⟨rfl, q⟩ := q
    obtain ⟨r, e, er⟩ := C.s _
    refine semO_of (op_notIn_kd D) ⟨_, r, rx.str, ry, by rw [F.hK]; exact e, ?_⟩
    rw [er]
    exact S.here (wBool _) q
  · exact q.elim
end
end Dl
set_option Elab.async false
set_option linter.all false
set_option maxRecDepth 100000
/-! exceptions: raise, try .. except, isinstance of what was caught -/
namespace L2
open PySem PySem.Spec PyProof.Rows
section
variable {X : Cx} {pins : List (Addr × Obj)} {σ : St} {H : Hp} {sI s' : Shared} {B : Heap}
/-- back on the ground, the exception's object among what is tracked -/
theorem Inv.landedT {a : Addr} {o : HO} (I : Inv X pins σ H sI) (nb : ∀ b o, sI.heap.get? b = some o → b ∉ frs X.stack → B.get? b = some o) (st : B.StaysIn s'.heap) (up : sI.heap.UpToSlots s'.heap) (os : s'.os = sI.os) (ag : AllBare s'.gens) (na : H a = none) (hn : sI.heap.get? a = none)
    (new : ObjOk X.prog X.w (upd H a o) s'.heap a o) : Inv X pins σ (upd H a o) s' := by
  have nf : ∀ b ∈ frs X.stack, ∀ o, sI.heap.get? b = some o → ∃ sl, s'.heap.get? b = some { o with slots := sl } := fun b hb o e => by
    obtain ⟨_, o', e', hd⟩ := I.stack.mem hb
    rw [e] at e'; cases e'
    exact up b o e hd
  have J := I.call (ch := []) (h' := s'.heap) (g' := s'.gens) (t' := s'.toks) (d' := s'.drawn) (H' := upd H a o)
    ⟨fun b o e _ hb _ => st b o (nb b o e hb), fun b o e _ hb _ => nf b hb o e, fun b u e n _ => by rw [upd_ne (fun z => by rw [z, hn] at e; cases e)]; exact n, fun b o e _ => by
      by_cases hb : b ∈ frs X.stack
      · obtain ⟨sl, q⟩ := nf b hb o e
        exact ⟨_, q⟩
      · exact ⟨o, st b o (nb b o e hb)⟩, fun b xs e => by rw [upd_ne (ne_of_none e na)]; exact e, fun b u xs e => by rw [upd_ne (ne_of_none e na)]; exact e, fun b ps e => ⟨#[], by rw [upd_ne (ne_of_none e na), e]; simp⟩⟩
    (by
      have K := (I.inGround nb).kept st
      intro b u e
      by_cases hb : b = a
      · subst hb
        rw [upd_same] at e
        cases e
        exact new
      · rw [upd_ne hb] at e
        exact (K b u e).stay (fun c v _ q => q) (fun c q => by rw [upd_ne (ne_of_none q na)]; exact q) fun c xs q => by rw [upd_ne (ne_of_none q na)]; exact q) ag (fun _ z => nomatch z)
  obtain ⟨a1, a2, a3, a4, a5⟩ := s'
  have e5 : a5 = sI.os := os
  subst e5
  exact J
theorem Inv.suiteT (I : Inv X pins σ H sI) (a : Addr) : Inv (X.suite a (X.pn ++ pins)) [] σ H sI :=
  ⟨I.ok.suite _ _, I.os, I.bare, I.base, I.loc, I.cell, I.free, I.freeC, fun p hp => I.pin p (by rw [List.append_nil] at hp; exact hp), I.hok, I.len⟩
theorem Inv.unsuiteT {a : Addr} {pn' : List (Addr × Obj)} (I : Inv (X.suite a (X.pn ++ pins)) pn' σ H sI) (ok : X.Ok) : Inv X pins σ H sI :=
  ⟨ok, I.os, I.bare, I.base, I.loc, I.cell, I.free, I.freeC, fun p hp => I.pin p (List.mem_append_left _ hp), I.hok, I.len⟩
end
/-- what the clause wishes: the exception's object is tracked in the suite -/
def wAsT (K : PySem.W.Frag) (mk : Value → Option Addr → Addr → HO) (c : Value) (i : Nat) (ts : Addr → TS) (Wout : WX) (D : Ends) : WX := fun cls d σ H =>
  ∃ b, PySem.W.exmOne K cls c = some b ∧ (b = true → ∀ a, H a = none → ts a { nx := fun σ' H' => D.nx (σ'.set i none) H', rt := D.rt, bk := fun σ' H' => D.bk (σ'.set i none) H', ct := fun σ' H' => D.ct (σ'.set i none) H' } (σ.set i (some (.ref a))) (upd H a (mk cls d a))) ∧
    (b = false → Wout cls d σ H)
section
variable {X : Cx} {x n : Str} {c : Value} {i : Nat} {body suite : List Stmt} {b₀ : Stmt} {np pos pos' : Pos} {tb : WX → TS} {ts : Addr → TS} {Wout : WX} {mk : Value → Option Addr → Addr → HO}
theorem ps_try_asT (hmk : ∀ {P : Program} {w : World} {H : Hp} {h : Heap} {a : Addr} {cls : Value} {d : Option Addr} {oe : Obj} {vs : Array Value}, h.get? a = some oe → Zc cls d oe → oe.data = .fields vs → ObjOk P w H h a (mk cls d a))
    (hs : X.stack = X.env :: X.outer) (hf : X.env.frame = some X.env.locals) (hN : X.N.Nodup) (hi : X.N[i]? = some n) (hln : X.env.kindOf n = some .local) (hc : Names X x c) (tk : Takes X Wout)
    (hb : ∀ (W : WX) (pn : List (Addr × Obj)) (xe : Value → Shared → Prop), Takes (X.tr pn xe) W → PassesOwn (model X.prog X.w) X.A X.env xe → PSs (X.tr pn xe) body (tb W))
    (hsu : ∀ (a : Addr) (pn : List (Addr × Obj)), PSs (X.suite a pn) (b₀ :: suite) (ts a)) :
    PS X (.Try body [.ExceptHandler (some (.Name x np)) (some n) (b₀ :: suite) pos'] [] [] pos) (fun D σ H => tb (wAsT X.K mk c i ts Wout D) D σ H) := by
  refine ⟨fun pins s σ H D I h => ?_⟩
  have ok := I.ok
  have hfr : X.A.frames = some (X.env :: X.outer) := by rw [ok.frames, hs]
  have hloc : Loc X.env.scope n := .inl hln
  refine wpAny_Try_except ?_
  refine wpAny_mono ((hb (wAsT X.K mk c i ts Wout D) (X.pn ++ pins) (fun e s₁ => wpAny (model X.prog X.w) X.A (noteFrame e X.env) (fun _ s₂ => wpAny (model X.prog X.w) X.A (setFlight e none) (fun _ s₃ =>
    wpAny (model X.prog X.w) X.A (handleBy e X.env [.ExceptHandler (some (.Name x np)) (some n) (b₀ :: suite) pos']) (SP X pins D) X.xe s₃) X.xe s₂) X.xe s₁) (fun u s' xx => ?_) PassesOwn.looking).run [] s σ H D (I.toTry _) h) (fun f s1 hsp => ?_) (fun e s1 he => he)
  · -- the catch
    obtain ⟨a, B, sI, pins', σ', H', cls, d, rfl, J', nb, up, sky, na, os, ag, b, hb1, hyes, hno⟩ := xx
    have J : Inv X pins σ' H' sI := J'.ofTry ok
    have sky' : Sky B (X.env :: X.outer) a (Zc cls d) X.env.locals s'.heap := by rw [← hs]; exact sky
    show wpAny (model X.prog X.w) X.A (noteFrame (.ref a) X.env) _ _ _
    refine Sky.land Zc.steady hfr hf sky' fun h3 fl3 up3 => ?_
    have J3 : Inv X pins σ' H' { s' with heap := h3 } := J.landed nb fl3.1 (up.trans up3) os ag
    obtain ⟨oe3, vs3, he3, hz3, hd3⟩ := fl3.there
    have notFr : ∀ {h : Heap} {o : Obj} {vs : Array Value}, h.FunFrames B (X.env :: X.outer) → h.get? a = some o → o.data = .fields vs → a ∉ frs (X.env :: X.outer) := fun {h o vs} ff e dd hm => by
      obtain ⟨_, o', e', hnf⟩ := ff.mem hm
      rw [e] at e'; cases e'
      exact hnf _ dd
    have nfr := notFr fl3.2.2.1 he3 hd3
    have hn : sI.heap.get? a = none := by
      cases q : sI.heap.get? a with
      | none => rfl
      | some o =>
        have z := nb a o q (by rw [hs]; exact nfr)
        rw [fl3.2.1] at z
        cases z
    have S3 := J3.suiteT a
    refine wpAny_handleBy_cons (codeAny_handlers_test ?_) (by intro q; cases q)
    have LT : PySem.W.Looks (model X.prog X.w) h3 (typeOf (.ref a)) cls := fun A Q E s k q => wpAny_typeOf_ref (k _ _ he3) (by rw [hz3.1]; exact q)
    have LM := PySem.W.exm_one (M := model X.prog X.w) (J3.kIn) LT hb1
    have test : ∀ {Q : Value → Shared → Prop} {E : Value → Shared → Prop}, Q c { s' with heap := h3 } → wpAny (model X.prog X.w) (X.A.mark (some (.ref a))) (eval (.Name x np) X.env) Q E { s' with heap := h3 } := fun {Q E} q => by
      obtain ⟨hg, hdbg, hm | ⟨hm, hv, hnn⟩⟩ := hc
      · exact ld_glob (X := X.suite a (X.pn ++ pins)) S3 hg hm q hdbg
      · exact ld_blt (X := X.suite a (X.pn ++ pins)) S3 hg hm hv q hnn hdbg
    refine test (LM.here ?_)
    cases b with
    | true =>
      refine codeAny_handlers_suite_as ?_
      refine HandSPX.lands_againZ fl3 fun h4 fl4 up4 => ?_
      obtain ⟨oe4, vs4, he4, hz4, hd4⟩ := fl4.there
      have J4 : Inv X pins σ' (upd H' a (mk cls d a)) { s' with heap := h4 } := J.landedT nb fl4.1 ((up.trans up3).trans up4) os ag na hn (hmk he4 hz4 hd4)
      have S4 := J4.suiteT a
      refine store_ok (X := X.suite a (X.pn ++ pins)) (v := .ref a) S4 hN hi hloc rfl (fun s5 S5 => ?_) (.inr hln)
      refine wpAny_mono ((hsu a (X.pn ++ pins)).run [] s5 _ _ _ S5 (hyes rfl a na)) (fun f s6 hsp => ?_) (fun _ _ z => False.elim z)
      have end_ : ∀ {σ6 : St} {H6 : Hp} {Q : Shared → Prop}, Inv (X.suite a (X.pn ++ pins)) [] σ6 H6 s6 → (∀ s7, Inv X pins (σ6.set i none) H6 s7 → Q s7) →
          wpAny (model X.prog X.w) X.A (do bindName X.env n .none; unbindBehindTheSuite X.env n pos') (fun _ s7 => Q s7) X.xe s6 := fun {σ6 H6 Q} S6 hq => gone_ok (S6.unsuiteT ok) hN hi hln hq
      cases f with
      | next =>
        obtain ⟨σ6, H6, S6, q6⟩ := hsp
        exact end_ S6 fun s7 J7 => ⟨_, _, J7, q6⟩
      | brk =>
        obtain ⟨σ6, H6, S6, q6⟩ := hsp
        exact end_ S6 fun s7 J7 => ⟨_, _, J7, q6⟩
      | cont =>
        obtain ⟨σ6, H6, S6, q6⟩ := hsp
        exact end_ S6 fun s7 J7 => ⟨_, _, J7, q6⟩
      | ret u =>
        obtain ⟨v6, σ6, H6, S6, r6, q6⟩ := hsp
        exact end_ S6 fun s7 J7 => ⟨_, _, _, J7, r6, q6⟩
    | false =>
      show wpAny _ X.A (handleBy (.ref a) X.env []) _ _ _
      refine wpAny_handleBy_nil ?_
      obtain ⟨k1, k2, k3, oe, vs, T, oT, ts', he, hz, hd, h1, hr⟩ := id fl3
      unfold PySem.passOn
      refine wpAny_bind (wpAny_field he hd h1 ?_)
      rw [if_neg (show ¬ ((Value.ref T == Value.none) = true) from by simp)]
      have fin : wpAny (model X.prog X.w) X.A (setFlight (.ref a) X.env.frame) (fun _ s4 => wpAny (model X.prog X.w) X.A (throw (.ref a) : Sem Flow) (SP X pins D) X.xe s4) X.xe { s' with heap := h3 } := by
        rw [hf]
        refine HandSPX.setFlight_upZ fl3 fun h4 hh4 up4 => wpAny_throw (tk _ _ ?_)
        exact ⟨a, B, sI, pins, σ', H', cls, d, rfl, J, nb, (up.trans up3).trans up4, .inr (.inr (by rw [hs]; exact hh4)), na, os, ag, hno rfl⟩
      first
        | exact wpAny_bind (wpAny_pure (wpAny_bind fin))
        | exact wpAny_bind fin
  · cases f with
    | next =>
      obtain ⟨σ', H', J', q⟩ := hsp
      exact wpAny_execs_nil ⟨σ', H', J'.ofTry ok, q⟩
    | brk =>
      obtain ⟨σ', H', J', q⟩ := hsp
      exact ⟨σ', H', J'.ofTry ok, q⟩
    | cont =>
      obtain ⟨σ', H', J', q⟩ := hsp
      exact ⟨σ', H', J'.ofTry ok, q⟩
    | ret u =>
      obtain ⟨v, σ', H', J', r, q⟩ := hsp
      exact ⟨v, σ', H', J'.ofTry ok, r, q⟩
end
end L2
namespace Dl
open PySem PySem.Spec PyProof.Rows L2
/-- the class that the module's name x tells -/
def ecl (g : Gc) (x : Str) : Value := (g.mg x).getD .none
/-- an own class over ValueError, without an own __init__ -/
structure ECls (g : Gc) (x : Str) : Prop where
  ex : ∃ C, g.mg x = some (.ref C) ∧ PySem.W.keepIn g.K (.ref C) = true ∧ PySem.W.excIn g.K C [.type "ValueError", .type "Exception", .type "BaseException", .type "object"] "ValueError.__new__" = true ∧ PySem.W.typeIn g.K (.ref C) = some (.type "type") ∧ L2.ExcC g.K C
/-- any own class over ValueError -/
structure ECl0 (g : Gc) (x : Str) : Prop where
  ex : ∃ C, g.mg x = some (.ref C) ∧ PySem.W.typeIn g.K (.ref C) = some (.type "type") ∧ L2.ExcC g.K C
theorem ECls.ecl {g : Gc} {x : Str} (h : ECls g x) : ∃ C, Dl.ecl g x = .ref C ∧ g.mg x = some (.ref C) ∧ L2.ExcC g.K C := by
  obtain ⟨C, h1, _, _, _, h2⟩ := h.ex
  exact ⟨C, by unfold Dl.ecl; rw [h1]; rfl, h1, h2⟩
/-- an exception of the class x is one of the class c, as except and isinstance look at it -/
def EIs (g : Gc) (x : Str) (c : Value) (b : Bool) : Prop := PySem.W.kitOne g.K (ecl g x) c = some b ∧ PySem.W.exmOne g.K (ecl g x) c = some b
section
variable {g : Gc} {i : Si} {k : Nat} {Y : Dx}
/-- raise X('m') -/
def tRai (cls : Value) (wd : Value → XF → SD → MH → Prop) : TSd := fun _ σ M => wd cls none σ M
theorem s_raiseW {wd : Value → XF → SD → MH → Prop} (hw : Y.wd = wd) (F : Fm g i k Y) (j : Nat) {x m : Str} {jj : Nat} {p p2 pos pos' : Pos} (E : ECls g x) (hj : i.gls[j]? = some x := by rfl) (hc : i.hot = false := by rfl) :
    QS Y (.Raise (some (.Call (.Name x p) [.Constant (.str m) jj p2] [] pos)) none pos') (tRai (ecl g x) wd) := by
  subst hw
  obtain ⟨C, m1, m2, m3, m4, m5⟩ := E.ex
  obtain ⟨h1, h2, h3⟩ := F.glo j x hj
  have ec : ecl g x = .ref C := by unfold ecl; rw [m1]; rfl
  refine ⟨fun s H σ M D S h => ?_⟩
  refine semS_of (ps_raise (F.calm hc) F.tk (pmk_own PySem.F.excBase_ValueError (by rw [F.hK]; exact m3) (by rw [F.hmg]; exact m1) (by rw [F.hK]; exact m2) (raises_own (by rw [F.hK]; exact m5.hs) (by rw [F.hK]; exact m4)) h1 h2)) ?_
  refine ⟨σ, M, none, S, trivial, ?_⟩
  rw [← ec]
  exact h
theorem s_raise1 (F : Fm g i k Y) (j : Nat) {x m : Str} {jj : Nat} {p p2 pos pos' : Pos} (E : ECls g x) (hj : i.gls[j]? = some x := by rfl) (hc : i.hot = false := by rfl) :
    QS Y (.Raise (some (.Call (.Name x p) [.Constant (.str m) jj p2] [] pos)) none pos') (tRai (ecl g x) Y.wd) := s_raiseW rfl F j E hj hc

/-- try: body, except x as n: suite -/
def tTry (K : PySem.W.Frag) (c : Value) (j : Nat) (tb : (Value → XF → SD → MH → Prop) → TSd) (ts : TSd) (wout : Value → XF → SD → MH → Prop) : TSd := fun D σ M => tb (fun cls fs σ1 M1 => ∃ b, PySem.W.exmOne K cls c = some b ∧
  (b = true → ∀ a, M1 a = none → ts { nx := fun σ' M' => D.nx (σ'.set j none) M', rt := D.rt, bk := fun σ' M' => D.bk (σ'.set j none) M', ct := fun σ' M' => D.ct (σ'.set j none) M' } (σ1.set j (some (.ref a))) (mset M1 a (.exc cls fs))) ∧ (b = false → wout cls fs σ1 M1)) D σ M
/-- what an except clause names -/
structure ENm (g : Gc) (x : Str) (c : Value) : Prop where
  n : g.mg x = some c ∨ (g.mg x = none ∧ bootBuiltins x = some c ∧ x ≠ "__name__")
theorem Fm.hots (F : Fm g i k Y) (a : Addr) (pn : List (Addr × Obj)) (H0 : Hp) (M0 : MH) : Fm g { i with hot := true } k { X := Y.X.suite a pn, H0 := H0, M0 := M0, wd := fun _ _ _ _ => False } :=
  ⟨F.hP, F.hw, F.hK, F.hmg, F.hb, F.N, F.hsc, F.nd, (fun z => by cases z), (fun z => by cases z), F.gd, ⟨F.room.dp, F.room.un⟩, F.fr, F.var, F.loc, F.cel, F.glo, F.sy, (by
    rintro u s' ⟨_, _, _, _, _, _, _, _, _, _, _, _, _, _, _, _, _, _, _, _, _, w⟩
    exact (show False from w).elim), PassesOwn.never⟩
theorem s_tryW {wd : Value → XF → SD → MH → Prop} (hw : Y.wd = wd) (F : Fm g i k Y) (j : Nat) {x n : Str} {c : Value} {body suite : List Stmt} {b₀ : Stmt} {np pos pos' : Pos} {tb : (Value → XF → SD → MH → Prop) → TSd} {ts : TSd} (jx : Nat) (N : ENm g x c)
    (hb : ∀ wd' (Y' : Dx), Fm g i k Y' → Y'.wd = wd' → QSs Y' body (tb wd')) (hs : ∀ Y' : Dx, Fm g { i with hot := true } k Y' → Y'.wd = noWd → QSs Y' (b₀ :: suite) ts)
    (hN : i.N[j]? = some n := by rfl) (hl : i.loc.contains j = true := by rfl) (hx : i.gls[jx]? = some x := by rfl) (hbk : i.blk = false := by rfl) :
    QS Y (.Try body [.ExceptHandler (some (.Name x np)) (some n) (b₀ :: suite) pos'] [] [] pos) (tTry g.K c j tb ts wd) := by
  subst hw
  obtain ⟨h1, h2, h3⟩ := F.glo jx x hx
  have hk := F.loc j n hl hN
  have nm : Names Y.X x c := ⟨h1, h2, by rw [F.hmg]; exact N.n⟩
  refine ⟨fun s H σ M D S h => ?_⟩
  let tsS : Addr → TS := fun a D' s1 H1 => ∀ pn, semSs (Y.X.suite a pn) (b₀ :: suite) D' s1 H1
  let tbS : WX → TS := fun W D' s1 H1 => ∀ pn xe, Takes (Y.X.tr pn xe) W → PassesOwn (model Y.X.prog Y.X.w) Y.X.A Y.X.env xe → semSs (Y.X.tr pn xe) body D' s1 H1
  refine semS_of (ps_try_asT (mk := ExL) (tb := tbS) (ts := tsS) (fun e z d => exL_ok e z d) (F.fr hbk).1 (F.fr hbk).2 (by rw [F.N]; exact F.nd) (i := j) (by rw [F.N]; exact hN) hk nm F.tk ?_ ?_) ?_
  · intro W pn xe tk po
    exact ⟨fun pins s σ H D' I hh => hh pn xe tk po pins s I⟩
  · intro a pn
    exact ⟨fun pins s σ H D' I hh => hh pn pins s I⟩
  · intro pn xe tk po
    have up : ∀ {σ' M' s' H'}, Ext H M H' M' → Dok Y.X.K H' M' → Slots Y.X.K H' M' s' σ' → Std Y s' H' σ' M' := fun e d sl => ⟨S.e.trans e, d, sl⟩
    let wd' : Value → XF → SD → MH → Prop := fun cls fs σ1 M1 => ∃ b, PySem.W.exmOne g.K cls c = some b ∧
      (b = true → ∀ a, M1 a = none → ts { nx := fun σ' M' => D.nx (σ'.set j none) M', rt := D.rt, bk := fun σ' M' => D.bk (σ'.set j none) M', ct := fun σ' M' => D.ct (σ'.set j none) M' } (σ1.set j (some (.ref a))) (mset M1 a (.exc cls fs))) ∧ (b = false → Y.wd cls fs σ1 M1)
    let Y' : Dx := { X := Y.X.tr pn xe, H0 := H, M0 := M, wd := wd' }
    have F' : Fm g i k Y' := by
      refine ⟨F.hP, F.hw, F.hK, F.hmg, F.hb, F.N, F.hsc, F.nd, F.calm, F.hd, F.gd, F.room, F.fr, F.var, F.loc, F.cel, F.glo, F.sy, ?_, po⟩
      refine tk.imp fun cls d s1 H1 ⟨σ1, M1, fs, S1, xf, b, hb1, hyes, hno⟩ => ⟨b, by rw [F.hK]; exact hb1, fun hbt a na pn2 => ?_, fun hbf => ⟨σ1, M1, fs, up S1.e S1.d S1.s, xf, hno hbf⟩⟩
      have nm := S1.d.free na
      have X1 : Ext H1 M1 (upd H1 a (ExL cls d a)) (mset M1 a (.exc cls fs)) := ext_mut (.inr na)
      have d1 : Dok Y.X.K (upd H1 a (ExL cls d a)) (mset M1 a (.exc cls fs)) := dok_mut (u := .exc cls fs) S1.d (.inr na) fun e => ⟨d, upd_same, xf.ext e⟩
      have Fh := F.hots a pn2 H M
      let Yh : Dx := { X := Y.X.suite a pn2, H0 := H, M0 := M, wd := fun _ _ _ _ => False }
      have Sh : Std Yh (s1.set j (some (.ref a))) (upd H1 a (ExL cls d a)) (σ1.set j (some (.ref a))) (mset M1 a (.exc cls fs)) := ⟨S1.e.trans X1, d1, (S1.s.ext X1).set (w := .ref a) rfl j⟩
      have q := hyes hbt a nm
      have z := (hs Yh Fh rfl).run _ _ _ _ _ Sh q
      have back : ∀ {Q : SD → MH → Prop} {s6 H6}, upS Yh (upd H1 a (ExL cls d a)) (mset M1 a (.exc cls fs)) (fun σ' M' => Q (σ'.set j none) M') s6 H6 → upS Y H M Q (s6.set j none) H6 := fun {Q s6 H6} ⟨σ6, M6, e6, S6, q6⟩ =>
        ⟨σ6.set j none, M6, (S1.e.trans X1).trans e6, up ((S1.e.trans X1).trans e6) S6.d (S6.s.wipe1 j), q6⟩
      exact semSs_mono z (fun _ _ z => back z) (fun v H6 ⟨w, M6, e6, d6, r6, q6⟩ => ⟨w, M6, (S1.e.trans X1).trans e6, d6, r6, q6⟩) (fun _ _ z => back z) fun _ _ z => back z
    have S' : Std Y' s H σ M := ⟨.refl _ _, S.d, S.s⟩
    have z := (hb wd' Y' F' rfl).run s H σ M D S' h
    have back : ∀ {Q : SD → MH → Prop} {s6 H6}, upS Y' H M Q s6 H6 → upS Y H M Q s6 H6 := fun {Q s6 H6} ⟨σ6, M6, e6, S6, q6⟩ => ⟨σ6, M6, e6, up e6 S6.d S6.s, q6⟩
    exact semSs_mono z (fun _ _ z => back z) (fun v H6 ⟨w, M6, e6, d6, r6, q6⟩ => ⟨w, M6, e6, d6, r6, q6⟩) (fun _ _ z => back z) fun _ _ z => back z
end
end Dl
set_option Elab.async false
set_option linter.all false
set_option maxRecDepth 100000
/-! zip, enumerate over lists and tuples in any mix -/
namespace Zm
open PySem PySem.Spec PyProof.Rows L2
/-- an iterator of the kind: of a tuple (true), of a list -/
def SI (t : Bool) (h : Heap) (it l : Addr) (i : Nat) : Prop := match t with | true => h.IsTupleIter it l i | false => h.IsListIter it l i
def SQ (t : Bool) (h : Heap) (l : Addr) (items : Array Value) : Prop := match t with | true => h.IsTuple l items | false => h.IsList l items
def SqX (t : Bool) (K : PySem.W.Frag) (H : Hp) (a : Addr) (xs : List V) : Prop := match t with | true => SqT K H a xs | false => SqL K H a xs
def iterO (t : Bool) (l : Addr) : Obj := { cls := .type (match t with | true => "tuple_iterator" | false => "list_iterator"), data := .fields #[.ref l, .int 0 0] }
theorem SI.obj {t : Bool} {h : Heap} {it l : Addr} {i : Nat} (x : SI t h it l i) : ∃ o, h.get? it = some o ∧ ∀ v, o.data ≠ .cell v := by
  cases t <;> (obtain ⟨o, e, _, d⟩ := x; exact ⟨o, e, fun v q => by rw [d] at q; cases q⟩)
theorem SI.keeps {t : Bool} {h h' : Heap} {it l : Addr} {i : Nat} (x : SI t h it l i) (k : ∀ o, h.get? it = some o → h'.get? it = some o) : SI t h' it l i := by
  cases t
  · exact Heap.IsListIter.at x k
  · exact Heap.IsTupleIter.at x k
theorem SI.start {t : Bool} {h : Heap} {it l : Addr} (x : h.get? it = some (iterO t l)) : SI t h it l 0 := by
  cases t <;> exact ⟨_, x, rfl, rfl⟩
theorem SQ.lt {t : Bool} {h : Heap} {l : Addr} {its : Array Value} (x : SQ t h l its) : l < h.objs.size := by
  cases t <;> (obtain ⟨o, e, _⟩ := x; exact Heap.lt_size e)
theorem draws (t : Bool) {prog : Program} {w : World} {A : Around} (hh : A.handled = none) (it l : Addr) (hne : l ≠ it) (items : Array Value) :
    Draws prog w A it [it, l] items.size (fun i v => items[i]? = some v) (fun i h => SI t h it l i ∧ SQ t h l items) := by
  cases t
  · exact Draws.list hh it l hne items
  · exact Draws.tuple hh it l hne items
theorem begins (t : Bool) (l : Addr) (items : Array Value) : Begins (.ref l) (iterO t l) fun h => SQ t h l items := by
  cases t
  · exact begins_list l items
  · exact begins_tuple l items
section
variable {X : Cx} {pins : List (Addr × Obj)} {σ : L2.St} {H : Hp} {s : Shared}
theorem seq_of {t : Bool} {a : Addr} {xs : List V} (I : Inv X pins σ H s) (h : SqX t X.K H a xs) : ∃ its : List Value, Vals xs its ∧ SQ t s.heap a its.toArray ∧ its.length ≤ sizeLine := by
  cases t
  · obtain ⟨its, rv, p, hz⟩ := I.list h
    exact ⟨its, rv, p.isList, by have := rv.length; omega⟩
  · obtain ⟨its, rv, p, hz⟩ := I.tuple h
    exact ⟨its, rv, p, by have := rv.length; omega⟩
theorem seq_inj {t : Bool} {a : Addr} {xs ys : List V} (I : Inv X pins σ H s) (h : SqX t X.K H a xs) (k : SqX t X.K H a ys) : xs = ys := by
  cases t
  · exact I.list_inj h k
  · exact I.tuple_inj h k
end
/-- a Turn by what the library says of walks that lay tuples -/
theorem turn_of {P : Program} {w : World} {K : PySem.W.Frag} {elts : List Expr} {kk : Nat} {tpos : Pos} {J : It} {fp : List Addr} {it : Addr} {tn : Nat → Heap → Prop} (mem : it ∈ fp) (obj : ∀ i h, tn i h → ∀ b ∈ fp, ∃ o, h.get? b = some o ∧ ∀ v, o.data ≠ .cell v)
    (keep : ∀ i h h', tn i h → (∀ b ∈ fp, ∀ o, h.get? b = some o → h'.get? b = some o) → tn i h')
    (item : ∀ (X : Cx), X.prog = P → X.w = w → X.K = K → X.A.handled = none → ∀ (i : Nat) (pins : List (Addr × Obj)) (s : Shared) (σ : L2.St) (H : Hp), Inv X pins σ H s → (∀ b ∈ fp, H b = none) → tn i s.heap → J.go i H →
      ∃ (fp' wr : List Addr) (n : Nat) (Pt : Nat → Array Value → Prop) (St : Nat → Heap → Prop) (Mid : Nat → Addr → Heap → Prop), WalksT P w X.A it fp' wr n Pt St Mid ∧ i < n ∧ St i s.heap ∧ (∀ b ∈ wr, b ∈ fp) ∧ (∀ h, St (i + 1) h → tn (i + 1) h) ∧
        ∀ vals, Pt i vals → ∃ vs : List V, Vals vs vals.toList ∧ vals.size ≤ sizeLine ∧ ∀ T, H T = none → J.yld i H (.ref T) (upd H T (.tup vs)))
    (done : ∀ (X : Cx), X.prog = P → X.w = w → X.K = K → X.A.handled = none → ∀ (i : Nat) (pins : List (Addr × Obj)) (s : Shared) (σ : L2.St) (H : Hp), Inv X pins σ H s → (∀ b ∈ fp, H b = none) → tn i s.heap → J.stop i H →
      ∃ (wr : List Addr), (∀ b ∈ wr, b ∈ fp) ∧ ∀ (Q : Option Value → Shared → Prop) (E : Value → Shared → Prop), (∀ h' tk, (∀ b o, b ∉ wr → s.heap.get? b = some o → h'.get? b = some o) → Q none { s with heap := h', toks := tk }) → wpAny (model P w) X.A (pyNext (.ref it)) Q E s)
    (self : ∀ (A : Around) (i : Nat) (s : Shared) (Q : Value → Shared → Prop) (E : Value → Shared → Prop), tn i s.heap → Q (.ref it) s → wpAny (model P w) A (pyIter (.ref it)) Q E s) : Turn P w K (.Tuple elts kk tpos) J fp it tn where
  mem := mem
  obj := obj
  keep := keep
  item := by
    intro X hP hw hK hc i pins s σ H E I hf st hg
    obtain ⟨fp', wr, n, Pt, St, Mid, W, hi, hst, hwr, hn, hv⟩ := item X hP hw hK (I.ok.hd hc) i pins s σ H I (fun b hb => (hf b hb).1) st hg
    have lt : ∀ b ∈ fp, b < s.heap.objs.size := fun b hb => by
      obtain ⟨o, e, _⟩ := obj i _ st b hb
      exact Heap.lt_size e
    refine W.item i s _ E hi hst fun T vals h' tk hp hT tup mid k => ?_
    refine ⟨_, rfl, W.go elts kk tpos i T { s with heap := h', toks := tk } _ E mid fun h'' hs k2 => ?_⟩
    obtain ⟨vs, rv, hz, yld⟩ := hv vals hp
    have hTn : T ∉ wr := W.apart i T h' mid
    have tup2 : h''.IsTuple T vals := by
      obtain ⟨o, ho, hc', m, hd⟩ := tup
      exact ⟨o, k2 T o hTn ho, hc', m, hd⟩
    have new : ObjOk X.prog X.w (upd H T (.tup vs)) h'' T (.tup vs) := by
      obtain ⟨o, ho, hc', m, hd⟩ := tup2
      exact ⟨by rw [rv.length]; simpa using hz, vals.toList, rv, ⟨o, ho, hc', m, by simpa using hd⟩⟩
    have hn0 : H T = none := I.hok.fresh hT
    have I1 : Inv X pins σ (upd H T (.tup vs)) { s with heap := h'', toks := tk } := I.turnedNew (ch := fp) (fun b o hb q => k2 b o (fun z => hb (hwr b z)) (k b o (fun z => hb (hwr b z)) q)) hf hT new
    refine ⟨.ref T, _, I1, rfl, yld T hn0, hn _ hs, fun b hb => ?_⟩
    rw [upd_ne (Nat.ne_of_lt (Nat.lt_of_lt_of_le (lt b hb) hT))]
    exact (hf b hb).1
  done := by
    intro X hP hw hK hc i pins s σ H E I hf st hg
    obtain ⟨wr, hwr, go⟩ := done X hP hw hK (I.ok.hd hc) i pins s σ H I (fun b hb => (hf b hb).1) st hg
    exact go _ _ fun h' tk k => ⟨rfl, I.turnedL (ch := fp) (fun b o hb q => k b o (fun z => hb (hwr b z)) q) hf⟩
  self := self

/-! ### zip -/
def Itm (K : PySem.W.Frag) (t1 t2 : Bool) (a b : Addr) : It :=
  ⟨fun i H => ∃ (xs ys : List V) (x y : V), SqX t1 K H a xs ∧ SqX t2 K H b ys ∧ xs[i]? = some x ∧ ys[i]? = some y,
    fun i H v H' => ∃ T x y, v = .ref T ∧ H T = none ∧ H' = upd H T (.tup [x, y]) ∧ (∀ xs, SqX t1 K H a xs → xs[i]? = some x) ∧ ∀ ys, SqX t2 K H b ys → ys[i]? = some y,
    fun i H => ∃ xs ys : List V, SqX t1 K H a xs ∧ SqX t2 K H b ys ∧ i ≤ xs.length ∧ i ≤ ys.length ∧ (i = xs.length ∨ i = ys.length)⟩
theorem turn_zipM {P : Program} {w : World} {K : PySem.W.Frag} {elts : List Expr} {kk : Nat} {tpos : Pos} (t1 t2 : Bool) {a b z TI TO i1 i2 : Addr} (D : ZipSep2 z TI TO i1 i2 [i1, a] [i2, b]) (n1 : a ≠ i1) (n2 : b ≠ i2) :
    Turn P w K (.Tuple elts kk tpos) (Itm K t1 t2 a b) [z, TI, TO, i1, i2] z (fun i h => IsZip h z TI TO .none ∧ IsTupOf2 h TI (.ref i1) (.ref i2) ∧ (∃ x y, IsTupOf2 h TO x y) ∧ SI t1 h i1 a i ∧ SI t2 h i2 b i) := by
  refine turn_of (by simp) ?_ ?_ ?_ ?_ ?_
  · intro i h st c hc
    obtain ⟨hz, hTI, ⟨x, y, hTO⟩, h1, h2⟩ := st
    have e' : c = z ∨ c = TI ∨ c = TO ∨ c = i1 ∨ c = i2 := by simpa using hc
    rcases e' with q | q | q | q | q
    · subst q; exact ⟨_, hz, fun v q => nomatch q⟩
    · subst q; exact ⟨_, hTI, fun v q => nomatch q⟩
    · subst q; exact ⟨_, hTO, fun v q => nomatch q⟩
    · subst q; exact h1.obj
    · subst q; exact h2.obj
  · intro i h h' st k
    obtain ⟨hz, hTI, ⟨x, y, hTO⟩, h1, h2⟩ := st
    exact ⟨k z (by simp) _ hz, k TI (by simp) _ hTI, ⟨x, y, k TO (by simp) _ hTO⟩, h1.keeps fun o q => k i1 (by simp) o q, h2.keeps fun o q => k i2 (by simp) o q⟩
  · intro X hP hw hK hh i pins s σ H I hf st hg
    subst hP hw hK
    obtain ⟨hz, hTI, hTO, h1, h2⟩ := st
    obtain ⟨xs, ys, x, y, hqx, hqy, hx, hy⟩ := hg
    obtain ⟨its, rv, p, l1⟩ := seq_of I hqx
    obtain ⟨its2, rv2, p2, l2⟩ := seq_of I hqy
    obtain ⟨u, hu, ru⟩ := rv.get hx
    obtain ⟨u2, hu2, ru2⟩ := rv2.get hy
    have lu := (List.getElem?_eq_some_iff.mp hu).1
    have lu2 := (List.getElem?_eq_some_iff.mp hu2).1
    refine ⟨_, _, _, _, _, _, WalksT.zipD2 D (draws t1 (A := X.A.in1) hh i1 a n1 its.toArray) (draws t2 (A := X.A.in1) hh i2 b n2 its2.toArray), by simp; omega, ⟨hz, hTI, hTO, ⟨h1, p⟩, ⟨h2, p2⟩⟩, fun c hc => ?_, fun h q => ⟨q.1, q.2.1, q.2.2.1, q.2.2.2.1.1, q.2.2.2.2.1⟩, ?_⟩
    · simp only [List.mem_cons, List.not_mem_nil, or_false] at hc ⊢
      rcases hc with q | q | q | q <;> simp [q]
    · rintro vals ⟨v1, v2, hv1, hv2, rfl⟩
      have e1 : v1 = u := by
        have : its[i]? = some v1 := by simpa using hv1
        rw [hu] at this
        exact (Option.some.inj this).symm
      have e2 : v2 = u2 := by
        have : its2[i]? = some v2 := by simpa using hv2
        rw [hu2] at this
        exact (Option.some.inj this).symm
      subst e1 e2
      refine ⟨[x, y], .cons ru (.cons ru2 .nil), by rw [sizeLine_eq]; show 2 ≤ 16777216; decide, fun T hT => ⟨T, x, y, rfl, hT, rfl, fun l hl => by rw [seq_inj I hl hqx]; exact hx, fun l hl => by rw [seq_inj I hl hqy]; exact hy⟩⟩
  · intro X hP hw hK hh i pins s σ H I hf st hg
    subst hP hw hK
    obtain ⟨hz, hTI, ⟨x0, y0, hTO⟩, h1, h2⟩ := st
    obtain ⟨xs, ys, hqx, hqy, hl1, hl2, hend⟩ := hg
    obtain ⟨its, rv, p, _⟩ := seq_of I hqx
    obtain ⟨its2, rv2, p2, _⟩ := seq_of I hqy
    have l1 := rv.length
    have l2 := rv2.length
    refine ⟨[z, TO, i1, i2], fun c hc => ?_, fun Q E k => ?_⟩
    · simp only [List.mem_cons, List.not_mem_nil, or_false] at hc ⊢
      rcases hc with q | q | q | q <;> simp [q]
    · refine wpAny_pyNext_zipD2_end (i := i) D (draws t1 (A := X.A.in1) hh i1 a n1 its.toArray) (draws t2 (A := X.A.in1) hh i2 b n2 its2.toArray) hz hTI hTO ⟨h1, p⟩ ⟨h2, p2⟩ (by simp; omega) (by simp; omega) (by simp; omega) fun h' tk kk => k h' tk fun c o hc e => ?_
      simp only [List.mem_cons, List.not_mem_nil, or_false, not_or] at hc
      exact kk c o hc.1 hc.2.1 hc.2.2.1 hc.2.2.2 e
  · intro A i s Q E st h
    exact wpAny_pyIter_zip st.1 h
def iZipM (K : PySem.W.Frag) (ta : TA) : TI := fun σ H R => ta σ H fun vs H1 => ∃ t1 t2 a b xs ys, vs = [.ref a, .ref b] ∧ SqX t1 K H1 a xs ∧ SqX t2 K H1 b ys ∧ R (Itm K t1 t2 a b) H1
theorem pi_zipM {X : Cx} {e e2 : Expr} {ta : TA} {p pos tpos : Pos} {elts : List Expr} {kk : Nat} (hg : Gl X "zip") (hm : X.mg "zip" = none) (ha : PA X [e, e2] ta)
    (hs : starEach [e, e2] X.env = (false, eval e X.env) :: starEach [e2] X.env := by rfl) (hpl : (backTo pos (starEach [e2] X.env)).any (·.1) = false := by rfl) :
    PI X (.Tuple elts kk tpos) (.Call (.Name "zip" p) [e, e2] [] pos) (iZipM X.K ta) := by
  refine ⟨fun pins s σ H R I h => ?_⟩
  refine Call_ (ld_blt I hg hm PyProof.Rows.boot_zip (PyProof.Rows.callWith_type1 (thn (ha.run pos pins s σ H _ I h) fun us s1 ⟨vs, H1, I1, r1, q1⟩ => ?_) hs hpl))
  obtain ⟨t1, t2, a, b, xs, ys, rfl, hqx, hqy, q⟩ := q1
  cases r1 with
  | cons r rr =>
    cases rr with
    | cons r' rr =>
      cases rr
      cases r
      cases r'
      obtain ⟨its, rv, p1, _⟩ := seq_of I1 hqx
      obtain ⟨its2, rv2, p2, _⟩ := seq_of I1 hqy
      have la := p1.lt
      have lb := p2.lt
      refine zip_begins2 (begins t1 a its.toArray) (begins t2 b its2.toArray) p1 p2 fun h' hz hTI hTO h1 h2 hsz hk => wpAny_pyIter_zip hz ?_
      have I2 : Inv X pins σ H1 { s1 with heap := h' } := I1.kept (t' := s1.toks) hk
      refine ⟨s1.heap.objs.size + 4, [s1.heap.objs.size + 4, s1.heap.objs.size + 2, s1.heap.objs.size + 3, s1.heap.objs.size, s1.heap.objs.size + 1], _, _, H1, rfl, I2,
        turn_zipM t1 t2 (zip_sep2 (fp1 := [a]) (fp2 := [b]) (by simpa using la) (by simpa using lb)) (Nat.ne_of_lt la) (Nat.ne_of_lt (Nat.lt_succ_of_lt lb)), ⟨hz, hTI, ⟨_, _, hTO⟩, .start h1, .start h2⟩, fun c hcm => ?_, q⟩
      have hle : s1.heap.objs.size ≤ c := by
        simp only [List.mem_cons, List.not_mem_nil, or_false] at hcm
        rcases hcm with z | z | z | z | z <;> rw [z]
        · exact Nat.le_add_right _ _
        · exact Nat.le_add_right _ _
        · exact Nat.le_add_right _ _
        · exact Nat.le_refl _
        · exact Nat.le_add_right _ _
      exact I1.fpOk hle (I1.hok.fresh hle)

/-! ### enumerate -/
def Itn (K : PySem.W.Frag) (t : Bool) (a : Addr) : It :=
  ⟨fun i H => ∃ (xs : List V) (x : V), SqX t K H a xs ∧ xs[i]? = some x,
    fun i H v H' => ∃ T x, v = .ref T ∧ H T = none ∧ H' = upd H T (.tup [.int (i : Nat), x]) ∧ ∀ xs, SqX t K H a xs → xs[i]? = some x,
    fun i H => ∃ xs : List V, SqX t K H a xs ∧ i = xs.length⟩
theorem turn_enumM {P : Program} {w : World} {K : PySem.W.Frag} {elts : List Expr} {kk : Nat} {tpos : Pos} (t : Bool) {a e it : Addr} (ne : e ≠ it) (na : a ≠ it) (ea : e ≠ a) :
    Turn P w K (.Tuple elts kk tpos) (Itn K t a) [e, it] e (fun i h => (∃ old, IsEnum h e it ((i : Nat) : Int) old) ∧ SI t h it a i) := by
  refine turn_of (by simp) ?_ ?_ ?_ ?_ ?_
  · intro i h st c hc
    obtain ⟨⟨old, he⟩, h1⟩ := st
    have e' : c = e ∨ c = it := by simpa using hc
    rcases e' with q | q
    · subst q; exact ⟨_, he, fun v q => nomatch q⟩
    · subst q; exact h1.obj
  · intro i h h' st k
    obtain ⟨⟨old, he⟩, h1⟩ := st
    exact ⟨⟨old, k e (by simp) _ he⟩, h1.keeps fun o q => k it (by simp) o q⟩
  · intro X hP hw hK hh i pins s σ H I hf st hg
    subst hP hw hK
    obtain ⟨⟨old, he⟩, h1⟩ := st
    obtain ⟨xs, x, hqx, hx⟩ := hg
    obtain ⟨its, rv, p, l1⟩ := seq_of I hqx
    obtain ⟨u, hu, ru⟩ := rv.get hx
    have lu := (List.getElem?_eq_some_iff.mp hu).1
    refine ⟨_, _, _, _, _, _, WalksT.enumFrom 0 (draws t (A := X.A.in1) hh it a na its.toArray) e ne (by simp [ne, ea]) (by simp), by simpa using lu, ⟨⟨old, by rw [Int.zero_add]; exact he⟩, h1, p⟩, fun c hc => hc, fun h q => ⟨by obtain ⟨⟨o, z⟩, _⟩ := q; exact ⟨o, by rw [Int.zero_add] at z; exact z⟩, q.2.1⟩, ?_⟩
    rintro vals ⟨k, v1, hv1, rfl⟩
    have e1 : v1 = u := by
      have : its[i]? = some v1 := by simpa using hv1
      rw [hu] at this
      exact (Option.some.inj this).symm
    subst e1
    exact ⟨[.int (i : Nat), x], .cons ⟨_, by rw [Int.zero_add]⟩ (.cons ru .nil), by rw [sizeLine_eq]; show 2 ≤ 16777216; decide, fun T hT => ⟨T, x, rfl, hT, rfl, fun l hl => by rw [seq_inj I hl hqx]; exact hx⟩⟩
  · intro X hP hw hK hh i pins s σ H I hf st hg
    subst hP hw hK
    obtain ⟨⟨old, he⟩, h1⟩ := st
    obtain ⟨xs, hqx, hend⟩ := hg
    obtain ⟨its, rv, p, _⟩ := seq_of I hqx
    have l1 := rv.length
    have W := WalksT.enumFrom (prog := X.prog) (w := X.w) (A := X.A) 0 (draws t (A := X.A.in1) hh it a na its.toArray) e ne (by simp [ne, ea]) (by simp)
    refine ⟨[e, it], fun c hc => hc, fun Q E k => W.done s Q E ?_ k⟩
    have en : its.toArray.size = i := by simp; omega
    rw [en]
    exact ⟨⟨old, by rw [Int.zero_add]; exact he⟩, h1, p⟩
  · intro A i s Q E st h
    obtain ⟨⟨old, he⟩, _⟩ := st
    exact wpAny_pyIter_enum he h
theorem meets_enum1 {v : Value} {o : Obj} {H : Heap → Prop} (B : Begins v o H) :
    Meets (Builtin.«enumerate.__new__» ⟨[.type "enumerate", v], []⟩) (fun _ R s => H s.heap ∧
      R (.ok (.ret (.ref (s.heap.push o).objs.size))) { s with heap := (s.heap.push o).push { cls := .type "enumerate", data := .fields #[.none, .bool false, .ref s.heap.objs.size, rawInt 0, .none, .none] } }) :=
  .of_wp fun prog w A R s h => by
    obtain ⟨hp, g, d, tk, os⟩ := s
    obtain ⟨h1, h⟩ := h
    have hsub := sub_enumerate
    have go : ∀ {A' : Around} {E : Value → Shared → Prop} {Q : Value → Shared → Prop}, Q (.ref hp.objs.size) ⟨hp.push o, g, d, tk, os⟩ → wpAny (model prog w) A' (pyIter v) Q E ⟨hp, g, d, tk, os⟩ :=
      fun q => B.iter prog w _ _ ⟨hp, g, d, tk, os⟩ _ h1 q
    wp_walk using go
    refine wpAny_stack_any fun st => wpAny_pure ?_
    split
    · rename_i c _ _ _ _ _
      cases (c == Value.type "enumerate") <;> (wp_walk using go; exact ⟨_, rfl, h⟩)
    · wp_walk using go
      exact ⟨_, rfl, h⟩
def iEnumM (K : PySem.W.Frag) (ta : TA) : TI := fun σ H R => ta σ H fun vs H1 => ∃ t a xs, vs = [.ref a] ∧ SqX t K H1 a xs ∧ R (Itn K t a) H1
theorem pi_enumM {X : Cx} {e : Expr} {ta : TA} {p pos tpos : Pos} {elts : List Expr} {kk : Nat} (hg : Gl X "enumerate") (hm : X.mg "enumerate" = none) (ha : PA X [e] ta)
    (hs : starEach [e] X.env = [(false, eval e X.env)] := by rfl) :
    PI X (.Tuple elts kk tpos) (.Call (.Name "enumerate" p) [e] [] pos) (iEnumM X.K ta) := by
  refine ⟨fun pins s σ H R I h => ?_⟩
  refine Call_ (ld_blt I hg hm boot_enumerate (PyProof.Rows.callWith_type1 (thn (ha.run pos pins s σ H _ I h) fun us s1 ⟨vs, H1, I1, r1, q1⟩ => ?_) hs rfl))
  obtain ⟨t, a, xs, rfl, hqx, q⟩ := q1
  cases r1 with
  | cons r rr =>
    cases rr
    cases r
    obtain ⟨its, rv, p1, _⟩ := seq_of I1 hqx
    have la := p1.lt
    refine callType_new F.called_enumerate (by decide) (F.typeCall_enumerate_1 _) (F.newCall_enumerate_1 _) (fun obj => F.args_object_init_2 obj _) F.entry_enumerate_new (meets_enum1 (begins t a its.toArray)) ⟨p1, ?_⟩
    have z1 : (s1.heap.push (iterO t a)).objs.size = s1.heap.objs.size + 1 := Heap.size_push ..
    obtain ⟨h', hh'⟩ : ∃ h', h' = (s1.heap.push (iterO t a)).push { cls := .type "enumerate", data := .fields #[.none, .bool false, .ref s1.heap.objs.size, rawInt 0, .none, .none] } := ⟨_, rfl⟩
    have he : IsEnum h' (s1.heap.objs.size + 1) s1.heap.objs.size 0 .none := by
      rw [hh', ← z1]
      exact Heap.get?_push_size _ rfl
    have h1 : h'.get? s1.heap.objs.size = some (iterO t a) := by
      rw [hh']
      exact Heap.get?_push_of_some _ (Heap.get?_push_size _ rfl)
    have hk : ∀ b o, s1.heap.get? b = some o → h'.get? b = some o := fun b o x => by
      rw [hh']
      exact Heap.get?_push_of_some _ (Heap.get?_push_of_some _ x)
    rw [z1, ← hh']
    refine ⟨⟨_, he, rfl⟩, wpAny_pyIter_enum he ?_⟩
    have I2 : Inv X pins σ H1 { s1 with heap := h' } := I1.kept (t' := s1.toks) hk
    refine ⟨s1.heap.objs.size + 1, [s1.heap.objs.size + 1, s1.heap.objs.size], _, _, H1, rfl, I2, turn_enumM t (Nat.succ_ne_self _) (Nat.ne_of_lt la) (Nat.ne_of_gt (Nat.lt_succ_of_lt la)), ⟨⟨.none, he⟩, .start h1⟩, fun c hcm => ?_, q⟩
    have hle : s1.heap.objs.size ≤ c := by
      simp only [List.mem_cons, List.not_mem_nil, or_false] at hcm
      rcases hcm with z | z <;> rw [z]
      · exact Nat.le_add_right _ _
      · exact Nat.le_refl _
    exact I1.fpOk hle (I1.hok.fresh hle)
end Zm
set_option Elab.async false
set_option linter.all false
set_option maxRecDepth 100000
/-! dicts with keys of tuples -/
namespace Dl
open PySem PySem.Spec PyProof.Rows L2
/-- what stands at a key -/
def nAt : List (NestedKey × W) → NestedKey → Option W
  | [], _ => none
  | q :: r, k => if q.1 = k then some q.2 else nAt r k
theorem nAt_cons (q : NestedKey × W) (r : List (NestedKey × W)) (k : NestedKey) : nAt (q :: r) k = if q.1 = k then some q.2 else nAt r k := rfl
theorem atKey_cons (x : NestedKey × Addr × Value) (r : List (NestedKey × Addr × Value)) (k : NestedKey) : atKey (x :: r) k = if x.1 = k then some x.2 else atKey r k := by
  unfold atKey
  rw [List.find?_cons]
  by_cases e : x.1 = k
  · rw [if_pos e, decide_eq_true e]; rfl
  · rw [if_neg e, decide_eq_false e]
def nHas (kvs : List (NestedKey × W)) (k : NestedKey) : Bool := (nAt kvs k).isSome
/-- .. stored -/
def nPut (kvs : List (NestedKey × W)) (k : NestedKey) (w : W) : List (NestedKey × W) := if nHas kvs k = true then kvs.map fun q => if q.1 = k then (q.1, w) else q else kvs ++ [(k, w)]
theorem nHas_mem {kvs : List (NestedKey × W)} {k : NestedKey} : nHas kvs k = true ↔ k ∈ kvs.map (·.1) := by
  induction kvs with
  | nil => simp [nHas, nAt]
  | cons q r ih =>
    unfold nHas at ih ⊢
    rw [nAt_cons, List.map_cons, List.mem_cons]
    by_cases e : q.1 = k
    · rw [if_pos e]
      exact ⟨fun _ => .inl e.symm, fun _ => rfl⟩
    · rw [if_neg e, ih]
      exact ⟨.inr, fun z => z.resolve_left fun z => e z.symm⟩
theorem nPut_keys (kvs : List (NestedKey × W)) (k : NestedKey) (w : W) : (nPut kvs k w).map (·.1) = if nHas kvs k = true then kvs.map (·.1) else kvs.map (·.1) ++ [k] := by
  unfold nPut
  split
  · rw [List.map_map]
    apply List.map_congr_left
    intro q _
    simp only [Function.comp]
    split <;> rfl
  · simp
section
variable {K : PySem.W.Frag} {H : Hp} {M : MH}
theorem RN.at {xs : List (NestedKey × Addr × Value)} {kvs : List (NestedKey × W)} (h : Paired (RN K H M) xs kvs) (k : NestedKey) : (atKey xs k = none ∧ nAt kvs k = none) ∨ ∃ p w v, atKey xs k = some p ∧ nAt kvs k = some w ∧ RelV v p.2 ∧ Wv K H M v w := by
  induction h with
  | nil => exact .inl ⟨rfl, rfl⟩
  | @cons x q xs kvs r t ih =>
    obtain ⟨h1, h2, h3, v, h4, h5⟩ := r
    rw [nAt_cons, atKey_cons, h1]
    by_cases e : q.1 = k
    · rw [if_pos e, if_pos e]
      exact .inr ⟨x.2, q.2, v, rfl, rfl, h4, h5⟩
    · rw [if_neg e, if_neg e]
      exact ih
theorem RN.put {xs : List (NestedKey × Addr × Value)} {kvs : List (NestedKey × W)} (h : Paired (RN K H M) xs kvs) {k : NestedKey} {b : Addr} {u : Value} {v : V} {w : W} (hk : Fz K H M (.ref b) k.data) (hd : k.depth ≤ 8) (ru : RelV v u) (rw' : Wv K H M v w) :
    Paired (RN K H M) (storedH xs k b u) (nPut kvs k w) := by
  have e : (atKey xs k).isSome = nHas kvs k := by
    unfold nHas
    rcases RN.at h k with ⟨z1, z2⟩ | ⟨p, w', v', z1, z2, _⟩ <;> rw [z1, z2] <;> rfl
  have c1 : Paired (RN K H M) (xs.map (putAt k u)) (kvs.map fun q => if q.1 = k then (q.1, w) else q) := by
    clear e
    induction h with
    | nil => exact .nil
    | @cons x q xs kvs r t ih =>
      refine .cons ?_ ih
      obtain ⟨h1, h2, h3, v', h4, h5⟩ := r
      unfold putAt
      by_cases e : q.1 = k
      · rw [if_pos (h1.trans e)]
        dsimp only
        rw [if_pos e]
        exact ⟨h1, h2, h3, v, ru, rw'⟩
      · rw [if_neg (fun z => e (h1 ▸ z))]
        dsimp only
        rw [if_neg e]
        exact ⟨h1, h2, h3, v', h4, h5⟩
  have c2 : Paired (RN K H M) (xs ++ [(k, b, u)]) (kvs ++ [(k, w)]) := by
    clear e c1
    induction h with
    | nil => exact .cons ⟨rfl, hk, hd, v, ru, rw'⟩ .nil
    | cons r t ih => exact .cons r ih
  unfold storedH nPut
  rw [e]
  split
  · exact c1
  · exact c2
end
section
variable {X : Cx} {pins : List (Addr × Obj)} {s : L2.St} {H : Hp} {sh : Shared} {M : MH}
mutual
theorem Fz.nested (I : Inv X pins s H sh) : ∀ (k : NestedKey) (v : V) (u : Value), Fz X.K H M v k.data → RelV v u → NestedIs sh.heap k u
  | .none, _, _, h, r => by cases h; cases r; exact .none
  | .num i, _, _, h, r => by cases h; obtain ⟨t, rfl⟩ := r; exact .int i t
  | .text x, _, _, h, r => by cases h; obtain ⟨t, rfl⟩ := r; exact .text x t
  | .tup ks, _, _, h, r => by
    cases h with
    | tup hs ha =>
      cases r
      obtain ⟨its, rv, ⟨o, ho, hc, n, hd⟩, _⟩ := I.tuple hs.sq
      exact .tup ho hc hd (by simpa using FzA.nested I ks _ its ha rv)
theorem FzA.nested (I : Inv X pins s H sh) : ∀ (ks : List NestedKey) (vs : List V) (us : List Value), FzA X.K H M vs (NestedKey.datas ks) → Vals vs us → NestedAll sh.heap ks us
  | [], _, _, h, r => by cases h; cases r; exact .nil
  | k :: ks, _, _, h, r => by
    cases h with
    | cons h1 h2 =>
      cases r with
      | cons r1 r2 => exact .cons (Fz.nested I k _ _ h1 r1) (FzA.nested I ks _ _ h2 r2)
end
end
section
variable {g : Gc} {i : Si} {k : Nat} {Y : Dx}
theorem RN.keys {K : PySem.W.Frag} {H : Hp} {M : MH} {xs : List (NestedKey × Addr × Value)} {kvs : List (NestedKey × W)} (h : Paired (RN K H M) xs kvs) : xs.map (·.1) = kvs.map (·.1) := by
  induction h with
  | nil => rfl
  | cons r t ih => rw [List.map_cons, List.map_cons, r.1, ih]
theorem RN.is {X : Cx} {s : L2.St} {H : Hp} {M : MH} {pins : List (Addr × Obj)} {sh : Shared} (I : Inv X pins s H sh) {xs : List (NestedKey × Addr × Value)} {kvs : List (NestedKey × W)} (h : Paired (RN X.K H M) xs kvs) : ∀ x ∈ xs, (nestedKind X.prog X.w).is sh.heap x.1 x.2.1 := by
  induction h with
  | nil => intro x hx; cases hx
  | @cons y q ys ks r t ih =>
    intro x hx
    rcases List.mem_cons.mp hx with e | hx
    · subst e
      obtain ⟨z1, z2, z3, v, z4, z5⟩ := r
      refine ⟨?_, by rw [z1]; exact z3⟩
      rw [z1]
      exact Fz.nested I q.1 _ _ z2 rfl
    · exact ih x hx
/-- the dict stands in the heap -/
theorem dn_at {s : L2.St} {H : Hp} {M : MH} {pins : List (Addr × Obj)} {sh : Shared} {a : Addr} {kvs : List (NestedKey × W)} (I : Inv Y.X pins s H sh) (D : Dok Y.X.K H M) (hm : M a = some (.dN Y.X.prog Y.X.w kvs)) :
    ∃ xs, H a = some (DctN Y.X.prog Y.X.w xs a) ∧ kvs.length ≤ sizeLine ∧ (a == sysModules) = false ∧ (kvs.map (·.1)).Nodup ∧ Paired (RN Y.X.K H M) xs kvs ∧ sh.heap.DictOfH (nestedKind Y.X.prog Y.X.w) a xs := by
  obtain ⟨xs, h1, h2, h3, h4, h5⟩ := D a _ hm
  refine ⟨xs, h1, h2, h3, h4, h5, ?_⟩
  have hh := I.hok a _ h1
  obtain ⟨o, es, ep, e1, e2, e3, e4⟩ := hh.1
  exact ⟨o, es, ep, e1, e2, e3, e4, RN.is I h5, by rw [RN.keys h5]; exact h4⟩
/-- what stands behind a store -/
theorem dn_put {s : L2.St} {H : Hp} {M : MH} {pins : List (Addr × Obj)} {sh : Shared} {a : Addr} {kvs kvs' : List (NestedKey × W)} {xs' : List (NestedKey × Addr × Value)} {h' : Heap} {t' : Nat} (I : Inv Y.X pins s H sh) (D : Dok Y.X.K H M) (hm : M a = some (.dN Y.X.prog Y.X.w kvs))
    (hx : h'.DictOfH (nestedKind Y.X.prog Y.X.w) a xs') (sb : Heap.SameBut a sh.heap h') (hl : kvs'.length ≤ sizeLine) (hn : (kvs'.map (·.1)).Nodup) (hp : Paired (RN Y.X.K H M) xs' kvs') :
    Inv Y.X pins s (upd H a (DctN Y.X.prog Y.X.w xs' a)) { sh with heap := h', toks := t' } ∧ Ext H M (upd H a (DctN Y.X.prog Y.X.w xs' a)) (mset M a (.dN Y.X.prog Y.X.w kvs')) ∧ Dok Y.X.K (upd H a (DctN Y.X.prog Y.X.w xs' a)) (mset M a (.dN Y.X.prog Y.X.w kvs')) := by
  obtain ⟨xs, h1, h2, h3, h4, h5⟩ := D a _ hm
  obtain ⟨o, es, ep, e1, e2, e3, e4, _, _⟩ := hx
  have nn : M a ≠ none := by rw [hm]; exact fun z => by cases z
  have X : Ext H M (upd H a (DctN Y.X.prog Y.X.w xs' a)) (mset M a (.dN Y.X.prog Y.X.w kvs')) := ext_mut (.inl nn)
  refine ⟨d_write I (by rw [h1]; exact True.intro) sb ⟨o, e1⟩ ⟨⟨o, es, ep, e1, e2, e3, e4⟩, ⟨o, e1⟩, fun _ _ ⟨o', es', ep', z1, z2⟩ k => ⟨o', es', ep', k o' z1, z2⟩⟩, X, dok_mut (u := .dN Y.X.prog Y.X.w kvs') D (.inl nn) fun e => ⟨xs', upd_same, hl, h3, hn, Paired.mapP hp fun _ _ z => z.ext e⟩⟩

/-- d[k] -/
def tNGet (P : Program) (w : World) (to ti : TEd) : TEd := fun σ M Q => to σ M fun o M1 => ti σ M1 fun x M2 => match o, x with
  | .ref p, .d x => ∃ kvs k u, M2 p = some (.dN P w kvs) ∧ x = NestedKey.data k ∧ isTup x = true ∧ k.depth ≤ 8 ∧ nAt kvs k = some u ∧ Q u M2
  | _, _ => False
theorem tup_ref {K : PySem.W.Frag} {H : Hp} {M : MH} {v : V} {x : PyData} (h : Fz K H M v x) (t : isTup x = true) : ∃ b, v = .ref b := by
  cases x with
  | tuple ds => cases h; exact ⟨_, rfl⟩
  | _ => cases t
theorem q_nget (F : Fm g i k Y) {a b : Expr} {ta tb : TEd} {pos : Pos} (ha : QE Y a ta) (hb : QE Y b tb) (hs : NoSl b := by intro _ _; rfl) : QE Y (.Subscript a b pos) (tNGet g.P g.w ta tb) := by
  refine ⟨fun s H σ M Q S h pins sh I => ?_⟩
  refine subD_of (T := "dict") PySem.F.slot_dict_getitem.lookup hs (thn (ha.run _ _ _ _ _ S h pins sh I) fun v1 s1 ⟨x1, H1, I1, r1, w1, M1, e1, d1, rw1, q⟩ => ?_)
  refine thn (hb.run _ _ _ _ _ (S.go e1 d1) q pins s1 I1) fun v2 s2 ⟨x2, H2, I2, r2, w2, M2, e2, d2, rw2, q2⟩ => ?_
  dsimp only at q2
  split at q2
  · rename_i p x
    obtain ⟨kvs, kk, u, hm, hx, ht, hd, hat, q3⟩ := q2
    rw [← F.hP, ← F.hw] at hm
    obtain rfl := (show x1 = _ from rw1)
    cases r1
    obtain ⟨xs, _, _, _, _, hp, hdict⟩ := dn_at I2 d2 hm
    obtain ⟨b, rfl⟩ := tup_ref rw2 ht
    cases r2
    subst hx
    have hk : (nestedKind Y.X.prog Y.X.w).is s2.heap kk b := ⟨Fz.nested I2 kk _ _ rw2 rfl, hd⟩
    have hu : (nestedKind Y.X.prog Y.X.w).room Y.X.A.in1 := by have := F.room.un; show Y.X.A.units + 1 + 8 < cLine; omega
    refine ⟨hdict.typeIs, ?_⟩
    rcases RN.at hp kk with ⟨_, z⟩ | ⟨pp, w', v', z1, z2, z3, z4⟩
    · rw [z] at hat; cases hat
    · rw [z2] at hat
      cases hat
      exact wpAny_getItem_heap hu hk hdict z1 ⟨v', H2, I2.tok _, z3, _, M2, e1.trans e2, d2, z4, q3⟩
  · exact q2.elim
/-- k in d, k not in d -/
def rNin (P : Program) (w : World) (neg : Bool) : R2d := fun x o M Q => match x, o with
  | .d x, .ref p => ∃ kvs k, M p = some (.dN P w kvs) ∧ x = NestedKey.data k ∧ isTup x = true ∧ k.depth ≤ 8 ∧ Q (.d (.bool (if neg then !nHas kvs k else nHas kvs k))) M
  | _, _ => False
theorem o_nin (F : Fm g i k Y) : Op2 Y (compareOp .In) (rNin g.P g.w false) := by
  intro s H σ M x y a b Q S rx ry q
  unfold rNin at q
  split at q
  · intro pins sh s' v u I r1 r2
    obtain ⟨kvs, kk, hm, hx, ht, hd, q3⟩ := q
    rw [← F.hP, ← F.hw] at hm
    obtain rfl := (show y = _ from ry)
    cases r2
    obtain ⟨xs, _, _, hsys, _, hp, hdict⟩ := dn_at I S.d hm
    obtain ⟨b, rfl⟩ := tup_ref rx ht
    cases r1
    subst hx
    have hk : (nestedKind Y.X.prog Y.X.w).is sh.heap kk b := ⟨Fz.nested I kk _ _ rx rfl, hd⟩
    have hu : (nestedKind Y.X.prog Y.X.w).room Y.X.A.in1 := by have := F.room.un; show Y.X.A.units + 1 + 8 < cLine; omega
    refine wpAny_in_heap hu hk hsys hdict ⟨.bl _, H, I.tok _, rfl, S.here (wBool _) ?_⟩
    rcases RN.at hp kk with ⟨z1, z⟩ | ⟨pp, w', v', z1, z2, z3, z4⟩
    · rw [z1]; unfold nHas at q3; rw [z] at q3; exact q3
    · rw [z1]; unfold nHas at q3; rw [z2] at q3; exact q3
  · exact q.elim
theorem o_nnotin (F : Fm g i k Y) : Op2 Y (compareOp .NotIn) (rNin g.P g.w true) := by
  intro s H σ M x y a b Q S rx ry q
  unfold rNin at q
  split at q
  · intro pins sh s' v u I r1 r2
    obtain ⟨kvs, kk, hm, hx, ht, hd, q3⟩ := q
    rw [← F.hP, ← F.hw] at hm
    obtain rfl := (show y = _ from ry)
    cases r2
    obtain ⟨xs, _, _, hsys, _, hp, hdict⟩ := dn_at I S.d hm
    obtain ⟨b, rfl⟩ := tup_ref rx ht
    cases r1
    subst hx
    have hk : (nestedKind Y.X.prog Y.X.w).is sh.heap kk b := ⟨Fz.nested I kk _ _ rx rfl, hd⟩
    have hu : (nestedKind Y.X.prog Y.X.w).room Y.X.A.in1 := by have := F.room.un; show Y.X.A.units + 1 + 8 < cLine; omega
    refine wpAny_notIn_heap hu hk hsys hdict ⟨.bl _, H, I.tok _, rfl, S.here (wBool _) ?_⟩
    rcases RN.at hp kk with ⟨z1, z⟩ | ⟨pp, w', v', z1, z2, z3, z4⟩
    · rw [z1]; unfold nHas at q3; rw [z] at q3; exact q3
    · rw [z1]; unfold nHas at q3; rw [z2] at q3; exact q3
  · exact q.elim
/-- d[k] = v -/
def gNPut (P : Program) (w : World) (to ti : TEd) : TGd := fun v σ M Q => to σ M fun o M1 => ti σ M1 fun x M2 => match o, x with
  | .ref p, .d x => ∃ kvs k, M2 p = some (.dN P w kvs) ∧ x = NestedKey.data k ∧ isTup x = true ∧ k.depth ≤ 8 ∧ kvs.length < sizeLine ∧ Q σ (mset M2 p (.dN P w (nPut kvs k v)))
  | _, _ => False
def rNSet (Y : Dx) : TSet := fun o x v H Q => ∀ pins sh s ov iv u, Inv Y.X pins s H sh → RelV o ov → RelV x iv → RelV v u → wpAny (model Y.X.prog Y.X.w) Y.X.A (setItem ov iv u) (fun _ s' => ∃ H', Inv Y.X pins s H' s' ∧ Q H') Y.X.xe sh
theorem set_sem : PSet Y.X (rNSet Y) := fun pins s σ H o i v ov iv u Q I ro ri rv h => h pins s σ ov iv u I ro ri rv
theorem nPut_len (kvs : List (NestedKey × W)) (k : NestedKey) (w : W) : (nPut kvs k w).length ≤ kvs.length + 1 := by
  unfold nPut
  split
  · rw [List.length_map]; omega
  · simp
theorem nPut_nodup {kvs : List (NestedKey × W)} (h : (kvs.map (·.1)).Nodup) (k : NestedKey) (w : W) : ((nPut kvs k w).map (·.1)).Nodup := by
  rw [nPut_keys]
  split
  · exact h
  · rename_i hn
    rw [List.nodup_append]
    refine ⟨h, by simp, fun x hx y hy => ?_⟩
    rw [List.mem_singleton.mp hy]
    rintro rfl
    exact hn (nHas_mem.mpr hx)
theorem g_nput (F : Fm g i k Y) {o j : Expr} {to ti : TEd} {pos : Pos} (ho : QE Y o to) (hi : QE Y j ti)
    (ha : ∀ v, assign (.Subscript o j pos) Y.X.env v = (do
      let ov ← holding [v] (eval o Y.X.env)
      let iv ← holding [v, ov] (eval j Y.X.env)
      standAt pos
      holding [v, ov, iv] (setItem ov iv v)
      release [v, ov, iv] []) := by intro _; rfl) : QG Y (.Subscript o j pos) (gNPut g.P g.w to ti) := by
  refine ⟨fun s H σ M v w Q S r h => semG_of (pg_sub pe_sem pe_sem set_sem ha) (ho.then_ S h fun vo H1 wo M1 e d r1 q => hi.then_ (S.go e d) q fun vi H2 wi M2 e2 d2 r2 q2 => ?_)⟩
  have rv := r.ext (e.trans e2)
  split at q2
  · rename_i p x
    obtain ⟨kvs, kk, hm, hx, ht, hd, hz, q3⟩ := q2
    rw [← F.hP, ← F.hw] at hm q3
    intro pins sh s' ov iv u I ro ri ru
    obtain rfl := (show vo = _ from r1)
    cases ro
    obtain ⟨xs, h1, _, _, hn, hp, hdict⟩ := dn_at I d2 hm
    obtain ⟨b, rfl⟩ := tup_ref r2 ht
    cases ri
    subst hx
    have hk : (nestedKind Y.X.prog Y.X.w).is sh.heap kk b := ⟨Fz.nested I kk _ _ r2 rfl, hd⟩
    have hu : (nestedKind Y.X.prog Y.X.w).room Y.X.A.in1 := by have := F.room.un; show Y.X.A.units + 1 + 8 < cLine; omega
    have hl : xs.length ≤ sizeLine := by rw [Paired.length hp]; omega
    refine wpAny_setItem_heap (hsz := hl) hu hk hdict fun h' hdict' sb => ?_
    obtain ⟨J, X1, D1⟩ := dn_put (t' := sh.toks + (nestedKind Y.X.prog Y.X.w).draws kk) I d2 hm hdict' sb (kvs' := nPut kvs kk w) (Nat.le_trans (nPut_len kvs kk w) hz) (nPut_nodup hn kk w) (RN.put hp r2 hd ru rv)
    exact ⟨_, J, σ, _, (e.trans e2).trans X1, S.go ((e.trans e2).trans X1) D1, q3⟩
  · exact q2.elim
/-- {k: v} -/
def tNDis (P : Program) (w : World) (tk tv : TEd) : TEd := fun σ M Q => ∀ p, M p = none → tk σ (mset M p (.dN P w [])) fun x M1 => tv σ M1 fun v M2 => match x with
  | .d x => ∃ k, x = NestedKey.data k ∧ isTup x = true ∧ k.depth ≤ 8 ∧ M2 p = some (.dN P w []) ∧ Q (.ref p) (mset M2 p (.dN P w [(k, v)]))
  | _ => False
/-- {} -/
def tNNew (P : Program) (w : World) : TEd := fun _ M Q => ∀ p, M p = none → Q (.ref p) (mset M p (.dN P w []))
theorem not_sys {pins : List (Addr × Obj)} {s : L2.St} {H : Hp} {sh : Shared} (I : Inv Y.X pins s H sh) (hsy : SysOk Y.X.base) : (sh.heap.objs.size == sysModules) = false := by
  obtain ⟨o, es, n, e, _⟩ := hsy
  have z := Heap.lt_size (I.bk _ _ e)
  exact beq_eq_false_iff_ne.mpr (Nat.ne_of_gt z)
theorem q_nnew (F : Fm g i k Y) {pos : Pos} : QE Y (.Dict [] [] pos) (tNNew g.P g.w) := by
  refine ⟨fun s H σ M Q S h pins sh I => ?_⟩
  have n0 : H sh.heap.objs.size = none := I.hok.fresh (Nat.le_refl _)
  have m0 := S.d.free n0
  have X1 : Ext H M (upd H sh.heap.objs.size (DctN g.P g.w [] sh.heap.objs.size)) (mset M sh.heap.objs.size (.dN g.P g.w [])) := ext_mut (.inr n0)
  refine wpAny_Dict_empty ⟨.ref sh.heap.objs.size, _, I.laid (a := sh.heap.objs.size) (o := DctN g.P g.w [] sh.heap.objs.size) (t' := sh.toks) (fun _ _ q => Heap.get?_push_of_some _ q) (Nat.le_refl _) ?_, rfl, ⟨.ref sh.heap.objs.size, _, X1, dok_mut (u := .dN g.P g.w []) S.d (.inr n0) fun e => ⟨[], upd_same, Nat.zero_le _, not_sys I F.sy, List.nodup_nil, .nil⟩, rfl, h _ m0⟩⟩
  have hx := Heap.DictOfH.new (knd := nestedKind g.P g.w) sh.heap
  obtain ⟨o, es, ep, e1, e2, e3, e4, _⟩ := hx
  exact ⟨⟨o, es, ep, e1, e2, e3, e4⟩, ⟨o, e1⟩, fun _ _ ⟨o', es', ep', z1, z2⟩ k => ⟨o', es', ep', k o' z1, z2⟩⟩
theorem q_ndis (F : Fm g i k Y) {ek ev : Expr} {tk tv : TEd} {pos : Pos} (hk : QE Y ek tk) (hv : QE Y ev tv) : QE Y (.Dict [some ek] [ev] pos) (tNDis g.P g.w tk tv) := by
  refine ⟨fun s H σ M Q S h pins sh I => ?_⟩
  rw [← F.hP, ← F.hw] at h
  obtain ⟨p, hp⟩ : ∃ p, p = sh.heap.objs.size := ⟨_, rfl⟩
  have n0 : H p = none := by rw [hp]; exact I.hok.fresh (Nat.le_refl _)
  have m0 := S.d.free n0
  have X1 : Ext H M (upd H p (DctN Y.X.prog Y.X.w [] p)) (mset M p (.dN Y.X.prog Y.X.w [])) := ext_mut (.inr n0)
  have hnew : (sh.heap.push { cls := .type "dict", data := .dict #[] }).DictOfH (nestedKind Y.X.prog Y.X.w) p [] := by rw [hp]; exact Heap.DictOfH.new sh.heap
  have D1 : Dok Y.X.K (upd H p (DctN Y.X.prog Y.X.w [] p)) (mset M p (.dN Y.X.prog Y.X.w [])) := dok_mut (u := .dN Y.X.prog Y.X.w []) S.d (.inr n0) fun e => ⟨[], upd_same, Nat.zero_le _, by rw [hp]; exact not_sys I F.sy, List.nodup_nil, .nil⟩
  have I1 : Inv Y.X pins s (upd H p (DctN Y.X.prog Y.X.w [] p)) { sh with heap := sh.heap.push { cls := .type "dict", data := .dict #[] } } := by
    rw [hp]
    refine I.laid (o := DctN Y.X.prog Y.X.w [] sh.heap.objs.size) (t' := sh.toks) (fun _ _ q => Heap.get?_push_of_some _ q) (Nat.le_refl _) ?_
    obtain ⟨o, es, ep, e1, e2, e3, e4, _⟩ := Heap.DictOfH.new (knd := nestedKind Y.X.prog Y.X.w) sh.heap
    exact ⟨⟨o, es, ep, e1, e2, e3, e4⟩, ⟨o, e1⟩, fun _ _ ⟨o', es', ep', z1, z2⟩ k => ⟨o', es', ep', k o' z1, z2⟩⟩
  have S1 : Std Y s (upd H p (DctN Y.X.prog Y.X.w [] p)) σ (mset M p (.dN Y.X.prog Y.X.w [])) := S.go X1 D1
  have hu : (nestedKind Y.X.prog Y.X.w).room Y.X.A := by have := F.room.un; show Y.X.A.units + 8 < cLine; omega
  have ne : pairTrees [some ek] [ev] Y.X.env pos ≠ [] := fun z => by cases z
  rw [arm_eval_Dict, zip_pairTrees [some ek] [ev] Y.X.env pos rfl rfl, dictDisplay_pairs _ ne (by show 1 < 17; decide)]
  refine wpAny_bind (wpAny_standAt (wpAny_bind (wpAny_subDictH (knd := nestedKind Y.X.prog Y.X.w) hu (by show 1 ≤ 15; decide) ?_)))
  refine pairTrees_cons_walk (thn (hk.run _ _ _ _ _ S1 (h p m0) pins _ I1) fun v1 s1 ⟨x1, H1, I2, r1, w1, M1, e1, d1, rw1, q⟩ => ?_)
  refine thn (hv.run _ _ _ _ _ (S1.go e1 d1) q pins s1 I2) fun v2 s2 ⟨x2, H2, I3, r2, w2, M2, e2, d2, rw2, q2⟩ => pairTrees_nil_walk ?_
  have rx := rw1.ext e2
  split at q2
  · rename_i x
    obtain ⟨kk, hx, ht, hd, hm, q3⟩ := q2
    obtain ⟨b, rfl⟩ := tup_ref rx ht
    cases r1
    subst hx
    obtain ⟨xs, h1, _, _, _, hpp, hdict⟩ := dn_at I3 d2 hm
    have x0 : xs = [] := by cases hpp; rfl
    subst x0
    have hkk : (nestedKind Y.X.prog Y.X.w).is s2.heap kk b := ⟨Fz.nested I3 kk _ _ rx rfl, hd⟩
    refine ⟨[(kk, b, v2)], ⟨rfl, rfl, hkk, trivial⟩, by rw [← hp]; exact hdict, fun h' tk hx' sb => ?_⟩
    rw [← hp] at hx' sb ⊢
    have hst : storedAllH ([] : List (NestedKey × Addr × Value)) [(kk, b, v2)] = [(kk, b, v2)] := rfl
    rw [hst] at hx'
    obtain ⟨J, X2, D2⟩ := dn_put (t' := tk) (kvs' := [(kk, w2)]) I3 d2 hm hx' sb (by show 1 ≤ sizeLine; rw [sizeLine_eq]; decide) (by simp) (.cons ⟨rfl, rx, hd, x2, r2, rw2⟩ .nil)
    exact wpAny_pure ⟨.ref p, _, J, rfl, .ref p, _, (X1.trans (e1.trans e2)).trans X2, D2, rfl, q3⟩
  · exact q2.elim
end
end Dl
set_option Elab.async false
set_option linter.all false
set_option maxRecDepth 100000
/-! more of lists: zip, enumerate, pop, list(x) that changes, op= in a place, min, max, [::-1], order of tuples -/
namespace Dl
open PySem PySem.Spec PyProof.Rows L2
section
variable {g : Gc} {i : Si} {k : Nat} {Y : Dx}
/-! ### what is walked: zip, enumerate -/
def seqQ (w : W) (M : MH) (R : List PyData → (MH → Prop) → Prop) : Prop := match w with
  | .d (.tuple ds) => R ds noKc
  | .d (.list ds) => R ds noKc
  | .scr ds => R ds noKc
  | .ref p => ∃ ws, M p = some (.lst ws) ∧ dataQ (fun ds _ => R ds fun M => M p = some (.lst (ds.map W.d))) ws M
  | _ => False
theorem seqQ_get {K : PySem.W.Frag} {H : Hp} {M : MH} {v : V} {w : W} {R : List PyData → (MH → Prop) → Prop} (d : Dok K H M) (r : Wv K H M v w) (h : seqQ w M R) :
    ∃ t a xs ds kc, v = .ref a ∧ Zm.SqX t K H a xs ∧ R ds kc ∧ ∀ H2 M2, Ext H M H2 M2 → Dok K H2 M2 → kc M2 → ∃ xs, Zm.SqX t K H2 a xs ∧ FzA K H2 M2 xs ds := by
  unfold seqQ at h
  split at h
  · obtain ⟨p, xs, rfl, h1, h2⟩ := r.tup
    exact ⟨true, p, xs, _, _, rfl, h1.sq, h, fun H2 M2 e _ _ => ⟨xs, (h1.ext e).sq, FzA.ext e _ xs h2⟩⟩
  · obtain ⟨p, xs, rfl, h1, h2⟩ := r.lst
    exact ⟨false, p, xs, _, _, rfl, h1.sq, h, fun H2 M2 e _ _ => ⟨xs, (h1.ext e).sq, FzA.ext e _ xs h2⟩⟩
  · obtain ⟨p, xs, rfl, h1, h2⟩ := r
    exact ⟨false, p, xs, _, _, rfl, h1.sq, h, fun H2 M2 e _ _ => ⟨xs, (h1.ext e).sq, FzA.ext e _ xs h2⟩⟩
  · obtain ⟨ws, hm, h⟩ := h
    obtain ⟨ds, rfl, q⟩ := dataQ_get h
    obtain rfl := (show v = _ from r)
    obtain ⟨xs, h1, h2⟩ := d _ _ hm
    refine ⟨false, _, xs, ds, _, rfl, SqL.of h1, q, fun H2 M2 e d2 c => ?_⟩
    obtain ⟨ys, k1, k2⟩ := d2 _ _ c
    exact ⟨ys, SqL.of k1, FzA.of_wv k2⟩
  · exact h.elim
def zipW (xs ys : List PyData) : List W := (xs.zip ys).map fun p => W.d (.tuple [p.1, p.2])
def enW (xs : List PyData) : List W := xs.zipIdx.map fun p => W.d (.tuple [.int (p.2 : Nat), p.1])
theorem pair_new {K : PySem.W.Frag} {H : Hp} {M : MH} {T : Addr} {vs : List V} {ds : List PyData} (d : Dok K H M) (n : H T = none) (h : FzA K H M vs ds) : Ext H M (upd H T (.tup vs)) M ∧ Dok K (upd H T (.tup vs)) M ∧ Wv K (upd H T (.tup vs)) M (.ref T) (.d (.tuple ds)) := by
  have m := d.free n
  have e := ext_new (o := .tup vs) n m
  exact ⟨e, dok_new d n, Fz.tup (.inl ⟨.inl upd_same, m⟩) (FzA.ext e ds vs h)⟩
theorem jl_zip {K : PySem.W.Frag} {H1 : Hp} {M1 : MH} {t1 t2 : Bool} {a b : Addr} {d1 d2 : List PyData} {k1 k2 : MH → Prop} (h1 : ∀ H2 M2, Ext H1 M1 H2 M2 → Dok K H2 M2 → k1 M2 → ∃ xs, Zm.SqX t1 K H2 a xs ∧ FzA K H2 M2 xs d1)
    (h2 : ∀ H2 M2, Ext H1 M1 H2 M2 → Dok K H2 M2 → k2 M2 → ∃ xs, Zm.SqX t2 K H2 b xs ∧ FzA K H2 M2 xs d2) : JL K (Zm.Itm K t1 t2 a b) H1 M1 (zipW d1 d2) (fun M => k1 M ∧ k2 M) := by
  intro H2 M2 e d c
  obtain ⟨xs, sx, fx⟩ := h1 H2 M2 e d c.1
  obtain ⟨ys, sy, fy⟩ := h2 H2 M2 e d c.2
  refine ⟨fun j w ej => ?_, ⟨xs, ys, sx, sy, ?_⟩⟩
  · unfold zipW at ej
    rw [List.getElem?_map] at ej
    cases hz : (d1.zip d2)[j]? with
    | none => rw [hz] at ej; cases ej
    | some p =>
      rw [hz] at ej
      cases ej
      rw [List.getElem?_zip_eq_some] at hz
      obtain ⟨v, ev, rv⟩ := fx.get hz.1
      obtain ⟨u, eu, ru⟩ := fy.get hz.2
      refine ⟨⟨xs, ys, v, u, sx, sy, ev, eu⟩, fun x H3 ⟨T, x1, y1, hx, hT, hH, f1, f2⟩ => ?_⟩
      subst hx hH
      have g1 := f1 xs sx
      have g2 := f2 ys sy
      rw [ev] at g1
      rw [eu] at g2
      cases g1
      cases g2
      exact pair_new d hT (.cons rv (.cons ru .nil))
  · have l1 := fx.length
    have l2 := fy.length
    simp only [zipW, List.length_map, List.length_zip]
    omega
def iZipD (t : TAd) : TId := fun σ M Q => t σ M fun ws M1 => match ws with
  | [w1, w2] => seqQ w1 M1 fun d1 k1 => seqQ w2 M1 fun d2 k2 => Q (zipW d1 d2) (fun M => k1 M ∧ k2 M) M1
  | _ => False
theorem i_zip (F : Fm g i k Y) (j : Nat) {a b : Expr} {t : TAd} {p pos tpos : Pos} {elts : List Expr} {kk : Nat} (hm : g.mg "zip" = none) (ha : QA Y [a, b] t) (hj : i.gls[j]? = some "zip" := by rfl) (hs : starEach [a, b] Y.X.env = (false, eval a Y.X.env) :: starEach [b] Y.X.env := by rfl)
    (hpl : (backTo pos (starEach [b] Y.X.env)).any (·.1) = false := by rfl) : QI Y (.Tuple elts kk tpos) (.Call (.Name "zip" p) [a, b] [] pos) (iZipD t) := by
  obtain ⟨h1, _, _⟩ := F.glo j _ hj
  refine ⟨fun s H σ M Q S h => semIt_of (Zm.pi_zipM h1 (by rw [F.hmg]; exact hm) pa_sem hs hpl) (ha.then_ S h fun v H1 w M1 e d r q => ?_)⟩
  split at q
  · obtain ⟨v, u, rfl, r1, r2⟩ := r.two
    obtain ⟨t1, a1, xs, d1, k1, rfl, s1, q, f1⟩ := seqQ_get d r1 q
    obtain ⟨t2, a2, ys, d2, k2, rfl, s2, q, f2⟩ := seqQ_get d r2 q
    exact ⟨t1, t2, a1, a2, xs, ys, rfl, s1, s2, _, _, M1, e, d, jl_zip f1 f2, q⟩
  · exact q.elim
theorem jl_enum {K : PySem.W.Frag} {H1 : Hp} {M1 : MH} {t : Bool} {a : Addr} {d1 : List PyData} {k1 : MH → Prop} (h1 : ∀ H2 M2, Ext H1 M1 H2 M2 → Dok K H2 M2 → k1 M2 → ∃ xs, Zm.SqX t K H2 a xs ∧ FzA K H2 M2 xs d1) : JL K (Zm.Itn K t a) H1 M1 (enW d1) k1 := by
  intro H2 M2 e d c
  obtain ⟨xs, sx, fx⟩ := h1 H2 M2 e d c
  refine ⟨fun j w ej => ?_, ⟨xs, sx, ?_⟩⟩
  · unfold enW at ej
    rw [List.getElem?_map, List.getElem?_zipIdx] at ej
    cases hz : d1[j]? with
    | none => rw [hz] at ej; cases ej
    | some p =>
      rw [hz] at ej
      cases ej
      obtain ⟨v, ev, rv⟩ := fx.get hz
      refine ⟨⟨xs, v, sx, ev⟩, fun x H3 ⟨T, x1, hx, hT, hH, f1⟩ => ?_⟩
      subst hx hH
      have g1 := f1 xs sx
      rw [ev] at g1
      cases g1
      have := pair_new (vs := [.int (j : Nat), v]) (ds := [.int ((0 + j : Nat) : Int), p]) d hT (.cons (by rw [Nat.zero_add]; exact .int _) (.cons rv .nil))
      exact this
  · have l1 := fx.length
    simp [enW]
    omega
def iEnumD (t : TAd) : TId := fun σ M Q => t σ M fun ws M1 => match ws with
  | [w1] => seqQ w1 M1 fun d1 k1 => Q (enW d1) k1 M1
  | _ => False
theorem i_enum (F : Fm g i k Y) (j : Nat) {a : Expr} {t : TAd} {p pos tpos : Pos} {elts : List Expr} {kk : Nat} (hm : g.mg "enumerate" = none) (ha : QA Y [a] t) (hj : i.gls[j]? = some "enumerate" := by rfl) (hs : starEach [a] Y.X.env = [(false, eval a Y.X.env)] := by rfl) :
    QI Y (.Tuple elts kk tpos) (.Call (.Name "enumerate" p) [a] [] pos) (iEnumD t) := by
  obtain ⟨h1, _, _⟩ := F.glo j _ hj
  refine ⟨fun s H σ M Q S h => semIt_of (Zm.pi_enumM h1 (by rw [F.hmg]; exact hm) pa_sem hs) (ha.then_ S h fun v H1 w M1 e d r q => ?_)⟩
  split at q
  · obtain ⟨v, rfl, r1⟩ := r.one
    obtain ⟨t1, a1, xs, d1, k1, rfl, s1, q, f1⟩ := seqQ_get d r1 q
    exact ⟨t1, a1, xs, rfl, s1, _, _, M1, e, d, jl_enum f1, q⟩
  · exact q.elim

/-! ### methods of lists, list(x) -/
def rPopD : RMd := fun w us M Q => match w, us with
  | .ref p, [.d (.int n)] => ∃ ws, M p = some (.lst ws) ∧ -(2 ^ 63) ≤ n ∧ n < 2 ^ 63 ∧ ∃ m u, seqIndex? n ws.length = some m ∧ ws[m]? = some u ∧ Q u (mset M p (.lst (ws.eraseIdx m)))
  | _, _ => False
theorem paired_at {α β : Type} {R : α → β → Prop} : ∀ {xs : List α} {ys : List β} {n : Nat} {y : β}, Paired R xs ys → ys[n]? = some y → ∃ x, xs[n]? = some x ∧ R x y
  | _, _, _, _, .nil, e => by simp at e
  | _, _, 0, _, .cons r _, e => by simp at e; subst e; exact ⟨_, rfl, r⟩
  | _, _, n + 1, y, .cons _ t, e => by
    obtain ⟨x, e1, e2⟩ := paired_at (n := n) (y := y) t (by simpa using e)
    exact ⟨x, by simpa using e1, e2⟩
theorem erase_paired {α β : Type} {R : α → β → Prop} : ∀ {xs : List α} {ys : List β} (n : Nat), Paired R xs ys → Paired R (xs.eraseIdx n) (ys.eraseIdx n)
  | _, _, _, .nil => .nil
  | _, _, 0, .cons _ t => t
  | _, _, n + 1, .cons r t => .cons r (erase_paired n t)
theorem m_popAt : MetD Y "list" "list.pop" "pop" tyMut rPopD := by
  refine ⟨rPopAt, F.plainAttrs_list, F.slot_list_pop, F.type_list_pop, mt_popAt, fun S r h => tyMut_is S r h, ?_⟩
  intro s H σ M x w vs ws Q R S r rs q k
  unfold rPopD at q
  split at q
  · obtain ⟨xs, hm, n1, n2, m, u, hx, hu, q⟩ := q
    obtain rfl := (show x = _ from r)
    obtain ⟨ys, h1, h2⟩ := S.d _ _ hm
    obtain ⟨v, rfl, rv⟩ := rs.one
    obtain ⟨y, e1, e2⟩ := paired_at h2 hu
    exact ⟨_, ys, _, m, y, rfl, by rw [rv.int], h1, n1, n2, by rw [Paired.length h2]; exact hx, e1, k _ _ (up_set S hm (erase_paired m h2) e2 q)⟩
  · exact q.elim
theorem seq0 {n : Nat} (h : 0 < n) : seqIndex? 0 n = some 0 := by
  unfold seqIndex?
  simp [h]
/-- list(x), a list that changes -/
def rLstM : RCd := fun ws M Q => match ws with
  | [.d (.tuple xs)] => ∀ p, M p = none → Q (.ref p) (mset M p (.lst (xs.map W.d)))
  | [.d (.list xs)] => ∀ p, M p = none → Q (.ref p) (mset M p (.lst (xs.map W.d)))
  | [.ref p0] => ∃ ws, M p0 = some (.lst ws) ∧ ∀ p, M p = none → Q (.ref p) (mset M p (.lst ws))
  | _ => False
theorem c_lstM : OpC Y (.type "list") rLstM := by
  intro s H σ M xs ws Q S rx q
  unfold rLstM at q
  split at q
  · obtain ⟨v, rfl, r⟩ := rx.one
    obtain ⟨p, ys, rfl, h1, h2⟩ := r.tup
    exact semC_of call_list_of ⟨p, ys, rfl, .inr h1.sq, fun l n => up_mut S n h2.wv (q l (S.d.free n))⟩
  · obtain ⟨v, rfl, r⟩ := rx.one
    obtain ⟨p, ys, rfl, h1, h2⟩ := r.lst
    exact semC_of call_list_of ⟨p, ys, rfl, .inl h1.sq, fun l n => up_mut S n h2.wv (q l (S.d.free n))⟩
  · obtain ⟨v, rfl, r⟩ := rx.one
    obtain ⟨ws', hm, q⟩ := q
    obtain rfl := (show v = _ from r)
    obtain ⟨ys, h1, h2⟩ := S.d _ _ hm
    exact semC_of call_list_of ⟨_, ys, rfl, .inl (SqL.of h1), fun l n => up_mut S n h2 (q l (S.d.free n))⟩
  · exact q.elim

/-! ### o[j] op= e, ints in a list that changes -/
def tAugD (f : Int → Int → Int) (to ti te : TEd) : TSd := fun D σ M => to σ M fun o M1 => ti σ M1 fun j M2 => match o, j with
  | .ref p, .d (.int n) => ∃ ws, M2 p = some (.lst ws) ∧ ∃ m : Nat, n = m ∧ ∃ x, ws[m]? = some (.d (.int x)) ∧ te σ M2 fun y M3 => match y with
    | .d (.int y) => ∃ ws', M3 p = some (.lst ws') ∧ m < ws'.length ∧ D.nx σ (mset M3 p (.lst (ws'.set m (.d (.int (f x y))))))
    | _ => False
  | _, _ => False
def rGetI (K : PySem.W.Frag) : V → V → Hp → VK → Prop := fun o i H Q => ∃ p xs, ∃ n : Nat, ∃ v, o = .ref p ∧ i = .int n ∧ SqL K H p xs ∧ xs[n]? = some v ∧ Q v H
theorem get_int : PGet Y.X (rGetI Y.X.K) := by
  intro pins s σ H o i ov iv Q I ro ri h
  obtain ⟨p, xs, n, v, rfl, rfl, hq, he, q⟩ := h
  cases ro
  obtain ⟨t, rfl⟩ := ri
  obtain ⟨its, r, pl, hz⟩ := I.list hq
  obtain ⟨w, ew, rw'⟩ := r.get he
  have lt := (List.getElem?_eq_some_iff.mp ew).1
  have hl := r.length
  have hn := line63
  exact getItem_listL pl.isList (by omega) (by omega) (by simpa using ew) ⟨v, H, I, rw', q⟩
theorem ixN_nat {n m : Nat} (h : m < n) : ixN n (m : Int) = some m := by
  unfold ixN
  simp [h]
theorem s_aug {f : Int → Int → Int} {op : Operator} (hp : PIp Y.X op (ipI f)) {o j e : Expr} {to ti te : TEd} {tpos pos : Pos} (ho : QE Y o to) (hi : QE Y j ti) (he : QE Y e te)
    (ha : ∀ ov iv new, augStore j ov iv new = (do holding [new, ov, iv] (setItem ov iv new); release [new, ov, iv] []; pure .next) := by intros; rfl) : QS Y (.AugAssign (.Subscript o j tpos) op e pos) (tAugD f to ti te) := by
  refine ⟨fun s H σ M D S h => semS_of (ps_augS pe_sem pe_sem get_int pe_sem hp set_list ha) (ho.then_ S h fun vo H1 wo M1 e1 d1 r1 q => hi.then_ (S.go e1 d1) q fun vi H2 wi M2 e2 d2 r2 q2 => ?_)⟩
  split at q2
  · rename_i p n
    obtain ⟨ws, hm, m, rfl, x, hx, q3⟩ := q2
    obtain rfl := (show vo = _ from r1)
    obtain ⟨xs, h1, h2⟩ := d2 _ _ hm
    obtain ⟨v, ev, rv⟩ := paired_at h2 hx
    have ev' : v = .int x := rv.int
    subst ev'
    refine ⟨p, xs, m, _, rfl, r2.int, SqL.of h1, ev, he.then_ ((S.go e1 d1).go e2 d2) q3 fun vy H3 wy M3 e3 d3 r3 q4 => ?_⟩
    split at q4
    · rename_i y
      obtain ⟨ws', hm', hl, q5⟩ := q4
      obtain ⟨ys, k1, k2⟩ := d3 _ _ hm'
      refine ⟨x, y, rfl, r3.int, p, ys, _, m, rfl, r2.int, k1, by rw [Paired.length k2]; exact ixN_nat hl, ?_⟩
      have nn : M3 p ≠ none := by rw [hm']; exact fun z => by cases z
      have X : Ext H3 M3 (upd H3 p (.lst (ys.set m (.int (f x y))))) (mset M3 p (.lst (ws'.set m (.d (.int (f x y)))))) := ext_mut (.inl nn)
      have dd : Dok Y.X.K (upd H3 p (.lst (ys.set m (.int (f x y))))) (mset M3 p (.lst (ws'.set m (.d (.int (f x y)))))) := dok_mut (u := .lst (ws'.set m (.d (.int (f x y))))) d3 (.inl nn) fun e => ⟨_, upd_same, WvA.ext e (set_paired (wInt (f x y)) m k2)⟩
      exact ⟨σ, _, ((e1.trans e2).trans e3).trans X, S.go (((e1.trans e2).trans e3).trans X) dd, q5⟩
    · exact q4.elim
  · exact q2.elim
def tAugN (f : Int → Int → Int) (j : Nat) (te : TEd) : TSd := fun D σ M => slotQ σ j fun x => match x with
  | .d (.int x) => te σ M fun y M1 => match y with | .d (.int y) => D.nx (σ.set j (some (.d (.int (f x y))))) M1 | _ => False
  | _ => False
/-- n op= e, ints -/
theorem s_augN (F : Fm g i k Y) (j : Nat) {f : Int → Int → Int} {op : Operator} (hp : PIp Y.X op (ipI f)) {x : Str} {e : Expr} {te : TEd} {p pos : Pos} (he : QE Y e te) (hN : i.N[j]? = some x := by rfl) (hl : i.loc.contains j = true := by rfl) : QS Y (.AugAssign (.Name x p) op e pos) (tAugN f j te) := by
  have lk := F.loc j x hl hN
  refine ⟨fun s H σ M D S h => semS_of (ps_aug (i := j) (by rw [F.N]; exact F.nd) (by rw [F.N]; exact hN) (.inl lk) pe_sem hp (.inr lk)) ?_⟩
  obtain ⟨w, ew, q⟩ := slotQ_get h
  obtain ⟨v, ev, r⟩ := S.s.get ew
  split at q
  · rename_i x
    have hv : v = .int x := r.int
    subst hv
    refine ⟨_, ev, he.then_ S q fun vy H1 wy M1 e1 d1 r1 q1 => ?_⟩
    split at q1
    · rename_i y
      exact ⟨x, y, rfl, r1.int, _, M1, e1, (S.go e1 d1).set (wInt (f x y)) j, q1⟩
    · exact q1.elim
  · exact q.elim

/-! ### min, max of a list; [::-1]; order; some times -/
def rMinL : RCd := fun ws M Q => match ws with
  | [.d (.list xs)] => match intsD xs with | some ns => ns ≠ [] ∧ ∀ m, m ∈ ns → (∀ y, y ∈ ns → m ≤ y) → Q (.d (.int m)) M | none => False
  | _ => False
def rMaxL : RCd := fun ws M Q => match ws with
  | [.d (.list xs)] => match intsD xs with | some ns => ns ≠ [] ∧ ∀ m, m ∈ ns → (∀ y, y ∈ ns → y ≤ m) → Q (.d (.int m)) M | none => False
  | _ => False
theorem c_minL (F : Fm g i k Y) (hc : i.hot = false := by rfl) : OpC Y (.builtin "min") rMinL := by
  intro s H σ M xs ws Q S rx q
  unfold rMinL at q
  split at q
  · split at q
    · rename_i bs e
      obtain rfl := intsD_eq e
      obtain ⟨v, rfl, r⟩ := rx.one
      obtain ⟨p, ys, rfl, h1, h2⟩ := r.lst
      obtain rfl := h2.intsV
      exact semC_of (cr_min (F.calm hc)) ⟨p, bs, rfl, h1.sq, List.length_pos_iff.mpr q.1, fun m hm hy => S.here (wInt _) (q.2 m hm hy)⟩
    · exact q.elim
  · exact q.elim
theorem c_maxL (F : Fm g i k Y) (hc : i.hot = false := by rfl) : OpC Y (.builtin "max") rMaxL := by
  intro s H σ M xs ws Q S rx q
  unfold rMaxL at q
  split at q
  · split at q
    · rename_i bs e
      obtain rfl := intsD_eq e
      obtain ⟨v, rfl, r⟩ := rx.one
      obtain ⟨p, ys, rfl, h1, h2⟩ := r.lst
      obtain rfl := h2.intsV
      exact semC_of (cr_max (F.calm hc)) ⟨p, bs, rfl, h1.sq, List.length_pos_iff.mpr q.1, fun m hm hy => S.here (wInt _) (q.2 m hm hy)⟩
    · exact q.elim
  · exact q.elim
theorem fza_rev {K : PySem.W.Frag} {H : Hp} {M : MH} {xs : List V} {ds : List PyData} (h : FzA K H M xs ds) : FzA K H M xs.reverse ds.reverse := h.reverse
/-- xs[::-1] of a list -/
def tRevLD (te : TEd) : TEd := fun σ M Q => te σ M fun w M1 => match w with | .d (.list ds) => Q (.d (.list ds.reverse)) M1 | _ => False
theorem q_revL {e : Expr} {te : TEd} {kk : Nat} {p1 p2 p3 pos : Pos} (he : QE Y e te) : QE Y (.Subscript e (.Slice none none (some (.UnaryOp .USub (.Constant (.int 1) kk p1) p2)) p3) pos) (tRevLD te) := by
  refine ⟨fun s H σ M Q S h => semE_of (pe_revL pe_sem) (he.then_ S h fun v H1 w M1 e d r q => ?_)⟩
  split at q
  · obtain ⟨p, xs, rfl, h1, h2⟩ := r.lst
    exact ⟨p, xs, rfl, h1.sq, fun l n => (up_lst (S.go e d) n (fza_rev h2) q).trans e⟩
  · exact q.elim
/-- x < y, tuples of ints -/
def rLtTD : R2d := fun a b M Q => match a, b with
  | .d (.tuple xs), .d (.tuple ys) => match intsD xs, intsD ys with | some ns, some ms => Q (.d (.bool (HT.lexLt ns ms))) M | _, _ => False
  | _, _ => False
theorem o_ltT (F : Fm g i k Y) : Op2 Y (compareOp .Lt) rLtTD := by
  intro s H σ M x y a b Q S rx ry q
  unfold rLtTD at q
  split at q
  · split at q
    · rename_i ns ms e1 e2
      obtain rfl := intsD_eq e1
      obtain rfl := intsD_eq e2
      obtain ⟨p, xs, rfl, h1, h2⟩ := rx.tup
      obtain ⟨p', ys, rfl, h3, h4⟩ := ry.tup
      obtain rfl := h2.intsV
      obtain rfl := h4.intsV
      have hu : Y.X.A.units < cLine := by have := F.room.un; omega
      exact semO_of (op_ltT hu) ⟨p, p', ns, ms, rfl, rfl, h1.sq, h3.sq, S.here (wBool _) q⟩
    · exact q.elim
  · exact q.elim
/-- xs != y, xs a list that changes -/
def rCmpM (neg : Bool) : R2d := fun a b M Q => match a, b with
  | .ref p, .d y => ∃ ws, M p = some (.lst ws) ∧ dataQ (fun xs M => neOk (.list xs) y = true ∧ Q (.d (.bool (if neg then !PyData.eqv (.list xs) y else PyData.eqv (.list xs) y))) M) ws M
  | _, _ => False
theorem o_neM (F : Fm g i k Y) : Op2 Y (compareOp .NotEq) (rCmpM true) := by
  intro s H σ M x y a b Q S rx ry q
  unfold rCmpM at q
  split at q
  · rename_i p dy
    intro pins sh s' v u I r1 r2
    obtain ⟨ws, hm, q⟩ := q
    obtain ⟨xs, rfl, ok, q⟩ := dataQ_get q
    obtain rfl := (show x = _ from rx)
    cases r1
    obtain ⟨vs, e1, e2⟩ := S.d _ _ hm
    obtain ⟨as, h1⟩ := seq_reads F I e1 (FzA.of_wv e2)
    obtain ⟨bs, h2, _⟩ := Fz.reads I F.sy _ y u ry r2
    have hu := F.room.un
    have ok2 : ((PyData.list xs).canLay0 && dy.canLay0 && decide (min (PyData.list xs).depth dy.depth ≤ 64)) = true := by simpa [neOk, bothS] using ok
    simp only [Bool.and_eq_true, decide_eq_true_eq] at ok2
    exact SeqAt.compareNe_reads h1 h2 ok2.1.1 ok2.1.2 (by omega) ⟨.bl _, H, I, rfl, S.here (wBool _) q⟩
  · exact q.elim
theorem o_eqM (F : Fm g i k Y) : Op2 Y (compareOp .Eq) (rCmpM false) := by
  intro s H σ M x y a b Q S rx ry q
  unfold rCmpM at q
  split at q
  · rename_i p dy
    intro pins sh s' v u I r1 r2
    obtain ⟨ws, hm, q⟩ := q
    obtain ⟨xs, rfl, ok, q⟩ := dataQ_get q
    obtain rfl := (show x = _ from rx)
    cases r1
    obtain ⟨vs, e1, e2⟩ := S.d _ _ hm
    obtain ⟨as, h1⟩ := seq_reads F I e1 (FzA.of_wv e2)
    obtain ⟨bs, h2, _⟩ := Fz.reads I F.sy _ y u ry r2
    have hu := F.room.un
    have ok2 : ((PyData.list xs).canLay0 && dy.canLay0 && decide (min (PyData.list xs).depth dy.depth ≤ 64)) = true := by simpa [neOk, bothS] using ok
    simp only [Bool.and_eq_true, decide_eq_true_eq] at ok2
    exact SeqAt.compareEq_reads h1 h2 ok2.1.1 ok2.1.2 (by omega) ⟨.bl _, H, I, rfl, S.here (wBool _) q⟩
  · exact q.elim
end
end Dl
set_option Elab.async false
set_option linter.all false
set_option maxRecDepth 100000
/-! tuples: some times, of what may change; lists put together -/
namespace Dl
open PySem PySem.Spec PyProof.Rows L2
open AutoSeq1 (wpAny_loadPart')
theorem tuple_once (l : Addr) (items : Array Value) (n : Nat) (dd : Option Addr) (sl : Array (Option Value)) (u : Tok) :
    Meets (Builtin.«tuple.__mul__» ⟨[.ref l, .int 1 u], []⟩) (fun _ R s => s.heap.get? l = some { cls := .type "tuple", dict := dd, data := .seq items n, slots := sl } ∧ R (.ok (.ret (Value.ref l))) s) :=
  .of_wp fun prog w A R s h => by
    obtain ⟨hp, g, d, tk, os⟩ := s
    obtain ⟨hl, h⟩ := h
    have f1 := AutoSeq1.idx_int
    have c1 : (items.isEmpty || (1 : Int) == 1) = true := by simp
    wp_walk using wpAny_loadPart' hl
    exact ⟨_, rfl, h⟩
theorem int_rmul_tup (a : Int) (t : Tok) (l : Addr) (items : Array Value) (n : Nat) (dd : Option Addr) (sl : Array (Option Value)) :
    Meets (Builtin.«int.__rmul__» ⟨[.int a t, .ref l], []⟩) (fun _ R s => s.heap.get? l = some { cls := .type "tuple", dict := dd, data := .seq items n, slots := sl } ∧ R (.ok (.ret Value.notImplemented)) s) :=
  .of_wp fun prog w A R s h => by obtain ⟨hp, g, d, tk, os⟩ := s; obtain ⟨hl, h⟩ := h; wp_walk using wpAny_loadPart' hl; exact ⟨_, rfl, h⟩
/-- a tuple once -/
def rRepT1 (K : PySem.W.Frag) : R2 := fun x y H Q => ∃ l xs, x = .ref l ∧ y = .int 1 ∧ SqT K H l xs ∧ Q (.ref l) H
theorem op_repT1 {X : Cx} : OpR X (binaryOp .Mult) (rRepT1 X.K) := by
  intro pins s σ H x y v u Q I rx ry h
  obtain ⟨l, xs, rfl, rfl, hT, q⟩ := h
  cases rx
  obtain ⟨t, rfl⟩ := ry
  obtain ⟨its, r, ⟨⟨cls, dd, data, sl⟩, ho, hc, n, hd⟩, hs⟩ := I.tuple hT
  simp only at hc hd
  subst hc hd
  refine wpAny_binaryOp_repeat_ref (T := "tuple") (U := "int") (by decide) ⟨_, ho, rfl⟩ (fun s' => typeIs_int s' 1 t) noFill_tuple_mul F.fills_int_mul F.slot_int_rmul repeat_tuple F.slot_int_index.lookup
    (call_meets F.slot_int_rmul (typeIs_int s 1 t) F.entry_int_rmul (F.args_int_rmul_2 _ _) (int_rmul_tup 1 t l its.toArray n dd sl)
      ⟨ho, rfl, ⟨_, ho, rfl⟩, call_meets F.slot_tuple_mul ⟨_, ho, rfl⟩ F.entry_tuple_mul (F.args_tuple_mul_2 _ _) (tuple_once l its.toArray n dd sl t) ⟨ho, ?_⟩⟩)
  exact ⟨.ref l, _, I, rfl, q⟩
section
variable {g : Gc} {i : Si} {k : Nat} {Y : Dx}
/-- a tuple n times, n from 1 on -/
def rRepD1 : R2d := fun a b M Q => match a, b with
  | .d (.tuple ds), .d (.int n) => ds ≠ [] ∧ 1 ≤ n ∧ n ≤ 1000 ∧ ds.length ≤ 1000 ∧ Q (.d (.tuple (List.replicate n.toNat ds).flatten)) M
  | _, _ => False
theorem o_rep1 : Op2 Y (binaryOp .Mult) rRepD1 := by
  intro s H σ M x y a b Q S rx ry q
  unfold rRepD1 at q
  split at q
  · obtain ⟨q1, q2, q3, q4, q5⟩ := q
    rename_i ds n
    by_cases h1 : n = 1
    · subst h1
      obtain ⟨p, xs, rfl, h1, h2⟩ := rx.tup
      refine semO_of op_repT1 ⟨p, xs, rfl, ry.int, h1.sq, S.here rx ?_⟩
      have e : (List.replicate (1 : Int).toNat ds).flatten = ds := by simp
      rw [e] at q5
      exact q5
    · exact o_rep s H σ M x y _ _ Q S rx ry ⟨q1, by omega, q3, q4, q5⟩
  · exact q.elim
/-! ### tuples of what may change -/
def tTupM (t : TAd) : TEd := fun σ M Q => t σ M fun ws M1 => small ws.length ∧ ∀ p, M1 p = none → Q (.ref p) (mset M1 p (.tup ws))
theorem q_tupM {es : List Expr} {t : TAd} {x1} {pos : Pos} (h : QA Y es t) : QE Y (.Tuple es x1 pos) (tTupM t) := by
  refine ⟨fun s H σ M Q S hq => semE_of (pe_tup pa_sem) (h.then_ S hq fun vs H1 ws M1 e d r q => ?_)⟩
  obtain ⟨hz, q⟩ := q
  refine ⟨by rw [Paired.length r]; exact hz, fun p n => ?_⟩
  have X1 : Ext H1 M1 (upd H1 p (.tup vs)) (mset M1 p (.tup ws)) := ext_mut (.inr n)
  exact ⟨.ref p, _, e.trans X1, dok_mut (u := .tup ws) d (.inr n) fun e' => ⟨vs, upd_same, WvA.ext e' r⟩, rfl, q p (d.free n)⟩
/-- (a, b, ..) = one of these -/
def gTupM (n : Nat) (t : TGsd) : TGd := fun w σ M Q => match w with | .ref p => ∃ ws, M p = some (.tup ws) ∧ ws.length = n ∧ t ws σ M Q | _ => False
theorem g_tupM (F : Fm g i k Y) {es : List Expr} {kk : Nat} {t : TGsd} {n : Nat} {pos : Pos} (h : QGs Y es t) (hn : (assignEach es Y.X.env).length = n := by rfl) (hst : (assignEach es Y.X.env).findIdx? (·.1) = none := by rfl) (hc : i.hot = false := by rfl) : QG Y (.Tuple es kk pos) (gTupM n t) := by
  refine ⟨fun s H σ M v w Q S r hq => ?_⟩
  unfold gTupM at hq
  split at hq
  · obtain ⟨ws, hm, hl, hq⟩ := hq
    obtain rfl := (show v = _ from r)
    obtain ⟨xs, h1, h2⟩ := S.d _ _ hm
    exact semG_of (pg_tup (F.calm hc) pgs_sem hn hst) ⟨_, xs, rfl, .inl (.inl h1), by rw [Paired.length h2]; exact hl, h.run s H σ M xs _ Q S h2 hq⟩
  · exact hq.elim
theorem sw_cell {elt : Expr} {gs : List Comprehension} {scope : Scope} {pos py : Pos} {y : Str} {l : Nat} {env : Env} (hy : env.scope.names.lookup y = some .cell) : swapsWith (.ListComp elt gs scope pos) (some (.Name y py)) l env = pure false := by
  have ky : env.kindOf y = some .cell := hy
  unfold swapsWith
  simp only [ky]
  have e : ((some NameKind.cell : Option NameKind) == some .local) = false := by decide
  rw [e, Bool.and_false, Bool.false_and, Bool.false_and]
/-- name = [..], the name a cell -/
theorem s_setlcC (F : Fm g i k Y) (j : Nat) {x : Str} {px : Pos} {elt : Expr} {gs : List Comprehension} {scope : Scope} {p2 pos : Pos} {t : TEd} (he : QE Y (.ListComp elt gs scope p2) t) (hN : i.N[j]? = some x := by rfl) (hc : i.cel.contains j = true := by rfl) :
    QS Y (.Assign [.Name x px] (.ListComp elt gs scope p2) pos) (tAsn t (gNam j)) := by
  exact s_set he (g_cell F j hN hc) (sw_cell (l := pos.line) (F.cel j x hc hN).1)
/-! ### lists put together, some of which may change -/
def lstQ (w : W) (M : MH) (R : List PyData → Prop) : Prop := match w with
  | .d (.list ds) => R ds
  | .ref p => ∃ ws, M p = some (.lst ws) ∧ dataQ (fun ds _ => R ds) ws M
  | _ => False
theorem lstQ_get {K : PySem.W.Frag} {H : Hp} {M : MH} {v : V} {w : W} {R : List PyData → Prop} (d : Dok K H M) (r : Wv K H M v w) (h : lstQ w M R) : ∃ a xs ds, v = .ref a ∧ H a = some (.lst xs) ∧ FzA K H M xs ds ∧ R ds := by
  unfold lstQ at h
  split at h
  · obtain ⟨p, xs, rfl, h1, h2⟩ := r.lst
    exact ⟨p, xs, _, rfl, h1.1, h2, h⟩
  · obtain ⟨ws, hm, h⟩ := h
    obtain ⟨ds, rfl, h'⟩ := dataQ_get h
    obtain ⟨xs, h1, h2⟩ := d _ _ hm
    exact ⟨_, xs, ds, r, h1, FzA.of_wv h2, h'⟩
  · exact h.elim
def rAddL : R2d := fun a b M Q => lstQ a M fun xs => lstQ b M fun ys => small (xs.length + ys.length) ∧ Q (.d (.list (xs ++ ys))) M
theorem o_addL : Op2 Y (binaryOp .Add) rAddL := by
  intro s H σ M x y a b Q S rx ry q
  obtain ⟨p, vs, xs, rfl, h1, h2, q⟩ := lstQ_get S.d rx q
  obtain ⟨p', us, ys, rfl, h3, h4, hz, q⟩ := lstQ_get S.d ry q
  exact semO_of op_cat ⟨p, p', vs, us, rfl, rfl, h1, h3, by rw [h2.length, h4.length]; exact hz, fun r n => up_lst S n (h2.append h4) q⟩
end
end Dl
set_option Elab.async false
set_option linter.all false
set_option maxRecDepth 100000
/-! sorted(list or tuple); more methods of lists -/
namespace Dl
open PySem PySem.Spec PyProof.Rows L2
open PySem.W (EachIs AllAlike Sortable dataLe SortsAt sortVals sortVals_length sortVals_data sortingHeap_old)
section
variable {prog : Program} {w : World} {A : Around} {E : Value → Shared → Prop} {s : Shared}
theorem grown_size (h : Heap) (items : Array Value) : ((h.push { cls := .type "list", data := .seq ([] : List Value).toArray }).update h.objs.size (Obj.mapSeq (· ++ items))).objs.size = h.objs.size + 1 := by
  rw [Heap.size_update, size_push']
/-- the items of a list or a tuple: what was there stays, one object more -/
theorem collect_more {l : Addr} {T : String} {o : Obj} {items : Array Value} {n : Nat} {Q : List Value → Shared → Prop} (hT : T = "list" ∨ T = "tuple") (ho : s.heap.get? l = some o) (hc : o.cls = .type T) (hd : o.data = .seq items n) (hz : items.size ≤ sizeLine)
    (hQ : ∀ h', (∀ b u, s.heap.get? b = some u → h'.get? b = some u) → h'.objs.size = s.heap.objs.size + 1 → Q items.toList { s with heap := h' }) : wpAny (model prog w) A (collect (.ref l)) Q E s := by
  obtain ⟨p, hp⟩ : ∃ p, p = s.heap.objs.size := ⟨_, rfl⟩
  obtain ⟨g, hg⟩ : ∃ g, g = (s.heap.push { cls := .type "list", data := .seq ([] : List Value).toArray }).update p (Obj.mapSeq (· ++ items)) := ⟨_, rfl⟩
  have hS : (s.heap.push { cls := .type "list", data := .seq ([] : List Value).toArray }).get? p = some { cls := .type "list", data := .seq #[] 0 } := by rw [hp]; exact Heap.get?_push_size _ rfl
  have keeps : ∀ b u, s.heap.get? b = some u → g.get? b = some u := fun b u e => by
    rw [hg]
    exact (Heap.get?_update_other _ _ (by rw [hp]; exact Nat.ne_of_gt (Heap.lt_size e))).trans (Heap.get?_push_of_some _ e)
  have size : g.objs.size = s.heap.objs.size + 1 := by rw [hg, hp]; exact grown_size _ _
  have gp : g.get? p = some (Obj.mapSeq (· ++ items) { cls := .type "list", data := .seq #[] 0 }) := by rw [hg]; exact Heap.get?_update_self _ hS rfl
  have last : wpAny (model prog w) A (load p >>= fun o => match o.data with | .seq xs _ => pure xs.toList | _ => unsupported "internal:collect") Q E { s with heap := g } := by
    refine wpAny_bind (wpAny_load gp (wpAny_pure ?_))
    have e : ((#[] : Array Value) ++ items).toList = items.toList := by simp
    show Q ((#[] : Array Value) ++ items).toList _
    rw [e]
    exact hQ g keeps size
  unfold collect
  refine wpAny_bind (wpAny_runValue (codeAny_builtin F.entry_proto_collect ?_))
  rw [Around.under_plainId F.plain_proto_collect _]
  show wpAny _ A.in1 (newList [] >>= fun l' => again (.builtin "list.__iadd__" ⟨[l', .ref l], []⟩)) _ _ s
  refine wpAny_bind (wpAny_newList (wpAny_pure ⟨plainId_quiet F.plain_list_iadd _, codeAny_builtin F.entry_list_iadd ?_⟩) (Nat.zero_le _))
  rw [Around.under_plainId F.plain_list_iadd _]
  rw [← hp]
  have go := wpAny_extend_seq (hsz := hz) (prog := prog) (w := w) (A := A) (R := fun r s' => r = .ok (.ret (.ref p)) ∧ s' = { s with heap := g }) (s := { s with heap := s.heap.push { cls := .type "list", data := .seq ([] : List Value).toArray } }) p l (.ref p) 0 hT hS (Heap.get?_push_of_some _ ho) hc hd ⟨rfl, by rw [hg]⟩
  refine wpAny_mono go (fun f s' h => ?_) fun e s' h => absurd h.1 (by simp)
  cases f with
  | done f =>
    obtain ⟨e, rfl⟩ := h
    cases e
    exact last
  | again c => exact ⟨h.1, codeAny_mono h.2 fun r s'' hr => by obtain ⟨rfl, rfl⟩ := hr; exact last⟩
theorem sorted_any {l : Addr} {T : String} {o : Obj} {vs : List Value} {n : Nat} {ds : List PyData} {R : Value → PyData → Prop} {Q : Value → Shared → Prop} (hT : T = "list" ∨ T = "tuple") (ho : s.heap.get? l = some o) (hc : o.cls = .type T) (hd : o.data = .seq vs.toArray n)
    (e : EachIs R vs ds) (er : EachIs (fun v d => ∃ as, Reads s.heap v d as) vs ds) (hal : AllAlike ds) (hk : Sortable ds) (hL : ds.length ≤ sizeLine) (hu : ∀ d, d ∈ ds → A.units + 2 + d.depth < cLine)
    (h : ∀ a h' out m, s.heap.objs.size ≤ a → (∀ b u, s.heap.get? b = some u → h'.get? b = some u) → h'.get? a = some (seqObj "list" out.toArray m) → EachIs R out (ds.mergeSort (dataLe false id)) → Q (.ref a) { s with heap := h' }) :
    wpAny (model prog w) A (call (.builtin "sorted") [.ref l]) Q E s := by
  have el : vs.length = ds.length := e.length
  have dm : ds.map id = ds := List.map_id ds
  refine call_function_entry_kw kind_sorted plain_sorted entry_sorted (args_sorted1 _) ?_
  unfold Builtin.«sorted»
  refine wpAny_bind (m := checkCount "sorted" 1 1 _) (wpAny_pure ?_)
  refine wpAny_bind (collect_more hT ho hc hd (by rw [List.size_toArray, el]; exact hL) fun h1 k1 z1 => ?_)
  have ell : vs.toArray.toList = vs := rfl
  rw [ell]
  refine wpAny_bind (wpAny_newList ?_ (by rw [el]; exact hL))
  have hs1 : s.heap.objs.size ≤ h1.objs.size := by omega
  show wpAny _ _ _ _ _ { s with heap := h1.push (seqObj "list" vs.toArray 0) }
  obtain ⟨h2, eh2⟩ : ∃ h2, h2 = h1.push (seqObj "list" vs.toArray 0) := ⟨_, rfl⟩
  rw [← eh2]
  have at2 : h2.get? h1.objs.size = some (seqObj "list" vs.toArray 0) := by rw [eh2]; exact Heap.get?_push_size _ rfl
  have k2 : ∀ b u, s.heap.get? b = some u → h2.get? b = some u := fun b u z => by rw [eh2]; exact Heap.get?_push_of_some _ (k1 b u z)
  have nb : ∀ b u, s.heap.get? b = some u → b ≠ h1.objs.size := fun b u z => Nat.ne_of_lt (Heap.lt_size (k1 b u z))
  have er' : EachIs (fun v d => ∃ as, Reads (PySem.W.sortingHeap h2 h1.objs.size vs) v (id d) as) vs ds := er.mono fun _ _ ⟨as, r⟩ => ⟨as, PyProof.Rows.Reads.keeps (fun b u z => sortingHeap_old (nb b u z) (k2 b u z)) r⟩
  show wpAny (model prog w) A.in1 (holding [Value.ref h1.objs.size] (call (.builtin "list.sort") [.ref h1.objs.size] []) >>= fun _ => ret (.ref h1.objs.size)) _ E { s with heap := h2 }
  refine wpAny_bind (wpAny_holding (wpAny_call_entry_kw slot_list_sort ⟨_, at2, rfl⟩ entry_list_sort ?body (args_list_sort _)))
  case body =>
    refine PySem.W.list_sort_vals (κ := PySem.W.dataKind (PySem.W.sortingHeap h2 h1.objs.size vs) (ds.map id)) (s := { s with heap := h2 }) at2 (SortsAt.data (s := { s with heap := PySem.W.sortingHeap h2 h1.objs.size vs }) (PySem.W.each_map (R := fun v d => ∃ as, Reads (PySem.W.sortingHeap h2 h1.objs.size vs) v d as) id er') (by rw [dm]; exact hal) (by rw [dm]; exact hk) (by rw [dm]; exact hu)) (by rw [el]; exact hL) ⟨_, rfl, wpAny_pure ⟨_, rfl, ?_⟩⟩
    have sv := sortVals_data false e er' (by rw [dm]; exact hal)
    obtain ⟨m, hm⟩ := PyProof.Rows.sortedHeap_at (vs := vs) (out := (sortVals (PySem.W.dataKind (PySem.W.sortingHeap h2 h1.objs.size vs) (ds.map id)) false vs vs).toArray) at2
    exact h h1.objs.size _ _ m hs1 (fun b u z => (PyProof.Rows.sortedHeap_old (nb b u z) (Heap.lt_size (k2 b u z))).trans (k2 b u z)) hm sv
end
section
variable {g : Gc} {i : Si} {k : Nat} {Y : Dx}
theorem each_rel {X : Cx} {H : Hp} {M : MH} : ∀ {xs : List V} {its : List Value} {ds : List PyData}, Vals xs its → FzA X.K H M xs ds → EachIs (fun v d => ∃ x, RelV x v ∧ Fz X.K H M x d) its ds
  | _, _, _, .nil, .nil => .nil
  | _, _, _, .cons r t, .cons f u => .cons ⟨_, r, f⟩ (each_rel t u)
theorem each_back {X : Cx} {H : Hp} {M : MH} : ∀ {its : List Value} {ds : List PyData}, EachIs (fun v d => ∃ x, RelV x v ∧ Fz X.K H M x d) its ds → ∃ xs, Vals xs its ∧ FzA X.K H M xs ds
  | _, _, .nil => ⟨[], .nil, .nil⟩
  | _, _, .cons ⟨x, r, f⟩ t => by
    obtain ⟨xs, h1, h2⟩ := each_back t
    exact ⟨x :: xs, .cons r h1, .cons f h2⟩
/-- a sequence as it stands here -/
theorem seqQ_here {K : PySem.W.Frag} {H : Hp} {M : MH} {v : V} {w : W} {R : List PyData → (MH → Prop) → Prop} (d : Dok K H M) (r : Wv K H M v w) (h : seqQ w M R) : ∃ t a xs ds kc, v = .ref a ∧ Zm.SqX t K H a xs ∧ R ds kc ∧ FzA K H M xs ds := by
  unfold seqQ at h
  split at h
  · obtain ⟨p, xs, rfl, h1, h2⟩ := r.tup
    exact ⟨true, p, xs, _, _, rfl, h1.sq, h, h2⟩
  · obtain ⟨p, xs, rfl, h1, h2⟩ := r.lst
    exact ⟨false, p, xs, _, _, rfl, h1.sq, h, h2⟩
  · obtain ⟨p, xs, rfl, h1, h2⟩ := r
    exact ⟨false, p, xs, _, _, rfl, h1.sq, h, h2⟩
  · obtain ⟨ws, hm, h⟩ := h
    obtain ⟨ds, rfl, q⟩ := dataQ_get h
    obtain rfl := (show v = _ from r)
    obtain ⟨xs, h1, h2⟩ := d _ _ hm
    exact ⟨false, _, xs, ds, _, rfl, .inl (.inl h1), q, FzA.of_wv h2⟩
  · exact h.elim
/-- the object of a sequence -/
theorem seq_obj {X : Cx} {pins : List (Addr × Obj)} {s : L2.St} {H : Hp} {sh : Shared} {t : Bool} {a : Addr} {xs : List V} (I : Inv X pins s H sh) (h : Zm.SqX t X.K H a xs) :
    ∃ (T : String) (o : Obj) (its : List Value) (n : Nat), (T = "list" ∨ T = "tuple") ∧ sh.heap.get? a = some o ∧ o.cls = .type T ∧ o.data = .seq its.toArray n ∧ Vals xs its := by
  cases t with
  | true =>
    obtain ⟨its, r, ⟨o, e, hc, n, hd⟩, _⟩ := I.tuple h
    exact ⟨"tuple", o, its, n, .inr rfl, e, hc, hd, r⟩
  | false =>
    obtain ⟨its, r, ⟨o, n, e, hc, _, hd⟩, _⟩ := I.list h
    exact ⟨"list", o, its, n, .inl rfl, e, hc, hd, r⟩
/-- sorted(a list or a tuple) -/
def rSort : RCd := fun ws M Q => match ws with
  | [w] => seqQ w M fun ds _ => AllAlike ds ∧ Sortable ds ∧ small ds.length ∧ (∀ d ∈ ds, d.depth ≤ 64) ∧ Q (.d (.list (ds.mergeSort (dataLe false id)))) M
  | _ => False
theorem c_sorted (F : Fm g i k Y) : OpC Y (.builtin "sorted") rSort := by
  intro s H σ M xs ws Q S rx q
  unfold rSort at q
  split at q
  · obtain ⟨v, rfl, r⟩ := rx.one
    obtain ⟨t, a, xs, ds, kc, rfl, h1, ⟨c1, c2, c3, c4, q⟩, f1⟩ := seqQ_here S.d r q
    intro pins sh s' us I ru
    obtain rfl := Vals.ref1 ru
    obtain ⟨T, o, its, n, hT, ho, hc, hd, rv⟩ := seq_obj I h1
    have hu := F.room.un
    have er : EachIs (fun v d => ∃ as, Reads sh.heap v d as) its ds := (each_rel rv f1).mono fun v d ⟨x, r1, r2⟩ => by
      obtain ⟨as, z, _⟩ := Fz.reads I F.sy d x v r2 r1
      exact ⟨as, z⟩
    have hd4 : ∀ d, d ∈ ds → Y.X.A.units + 2 + d.depth < cLine := fun d hd => by
      have := c4 d hd
      omega
    refine sorted_any (A := Y.X.A) (R := fun v d => ∃ x, RelV x v ∧ Fz Y.X.K H M x d) hT ho hc hd (each_rel rv f1) er c1 c2 c3 hd4 fun a' h' out m hp kp hm eo => ?_
    · obtain ⟨ys, vy, fy⟩ := each_back eo
      have n0 : H a' = none := I.hok.fresh hp
      have hl : ys.length ≤ sizeLine := by
        rw [fy.length, List.length_mergeSort]
        exact c3
      exact ⟨.ref a', _, I.laid (t' := sh.toks) (o := .lst ys) kp hp ⟨hl, out, m, vy, hm⟩, rfl, up_lst S n0 fy q⟩
  · exact q.elim
/-! ### methods of lists, kept or changing -/
def rSemM (Y : Dx) (id : String) : V → List V → Hp → VK → Prop := fun x xs H Q => ∀ pins sh s v us, Inv Y.X pins s H sh → RelV x v → Vals xs us → wpAny (model Y.X.prog Y.X.w) Y.X.A (call (.builtin id) (v :: us)) (EP Y.X pins s Q) Y.X.xe sh
theorem mt_sem {id : String} : MtR Y.X id (rSemM Y id) := fun pins sh s _ _ _ v us _ I r1 r2 h => h pins sh s v us I r1 r2
def tyL : W → MH → Prop := fun w M => lstQ w M fun _ => True
theorem tyL_is {s : L2.St} {H : Hp} {σ : SD} {M : MH} {x : V} {w : W} (S : Std Y s H σ M) (r : Wv Y.X.K H M x w) (h : tyL w M) : tyV Y.X.K "list" x H := by
  obtain ⟨a, xs, ds, rfl, h1, _, _⟩ := lstQ_get S.d r h
  exact .inl ⟨rfl, xs, SqL.of h1⟩
/-- xs.index(x) -/
def rIdxD : RMd := fun w us M Q => match us with
  | [.d x] => lstQ w M fun ds => inOk x ds = true ∧ ∃ (j : Nat) (z : PyData), ds[j]? = some z ∧ PyData.eqv z x = true ∧ (∀ (m : Nat) (z' : PyData), m < j → ds[m]? = some z' → PyData.eqv z' x = false) ∧ Q (.d (.int (j : Nat))) M
  | _ => False
/-- xs.count(x) -/
def rCntD : RMd := fun w us M Q => match us with
  | [.d x] => lstQ w M fun ds => inOk x ds = true ∧ Q (.d (.int ((ds.countP fun y => PyData.eqv y x : Nat) : Int))) M
  | _ => False
theorem lst_obj {s : L2.St} {H : Hp} {M : MH} {pins : List (Addr × Obj)} {sh : Shared} (I : Inv Y.X pins s H sh) (hsy : SysOk Y.X.base) {a : Addr} {xs : List V} {ds : List PyData} (h : H a = some (.lst xs)) (f : FzA Y.X.K H M xs ds) :
    ∃ (dd : Option Addr) (its : List Value) (n : Nat) (sl : Array (Option Value)) (as : List Addr), sh.heap.get? a = some ⟨.type "list", dd, .seq its.toArray n, sl⟩ ∧ ReadsAll sh.heap its ds as ∧ its.length = ds.length ∧ its.length ≤ sizeLine := by
  obtain ⟨its, rv, ⟨⟨cls, dd, data, sl⟩, n, ho, hc, _, hd⟩, hz⟩ := I.list (SqL.of h)
  simp only at hc hd
  subst hc hd
  obtain ⟨as, h4, _⟩ := FzA.reads I hsy ds xs its f rv
  exact ⟨dd, its, n, sl, as, ho, h4, SeqAt.ReadsAll.length ds its as h4, by rw [← rv.length]; exact hz⟩
theorem m_index (F : Fm g i k Y) : MetD Y "list" "list.index" "index" tyL rIdxD := by
  refine ⟨rSemM Y "list.index", PySem.F.plainAttrs_list, PySem.F.slot_list_index, PySem.F.type_list_index, mt_sem, fun S r h => tyL_is S r h, ?_⟩
  intro s H σ M x w vs ws Q R S r rs q kR
  unfold rIdxD at q
  split at q
  · obtain ⟨a, xs, ds, rfl, h1, f1, ok, j, z, hz, hzj, hno, q⟩ := lstQ_get S.d r q
    obtain ⟨y, rfl, ry⟩ := rs.one
    intro pins sh s' v us I rv ru
    cases rv
    obtain ⟨u, rfl, ru'⟩ := ru.one
    obtain ⟨dd, its, n, sl, as, ho, h4, hn, hl⟩ := lst_obj I F.sy h1 f1
    obtain ⟨bs, r1, _⟩ := Fz.reads I F.sy _ y u ry ru'
    unfold inOk at ok
    simp only [Bool.and_eq_true, decide_eq_true_eq] at ok
    obtain ⟨⟨hxs, hd⟩, hdp⟩ := ok
    have hu := F.room.un
    have hmap : its.map (SeqAt.readOf sh.heap) = ds := SeqAt.readsAll_map ds its as hxs h4
    obtain ⟨hjd, _⟩ := List.getElem?_eq_some_iff.mp hz
    have hj : j < its.toArray.size := by simp; omega
    have at_ : ∀ (m : Nat) (hm : m < its.toArray.size) (z' : PyData), ds[m]? = some z' → SeqAt.readOf sh.heap its.toArray[m] = z' := by
      intro m hm z' hz'
      have hml : m < its.length := by simpa using hm
      rw [← hmap, List.getElem?_map, List.getElem?_eq_getElem hml] at hz'
      have e1 : SeqAt.readOf sh.heap its[m] = z' := Option.some.inj hz'
      simpa using e1
    have hsl := sizeLine_eq
    refine call_meets PySem.F.slot_list_index ⟨_, ho, rfl⟩ PySem.F.entry_list_index (PySem.F.args_list_index_2 _ _)
      (SeqAt.list_indexAt a its.toArray n dd sl u (fun u => PyData.eqv (SeqAt.readOf sh.heap u) _) j hj (by omega) ?_ ?_) ⟨ho, SeqAt.items_eqAt (vs := its.toArray) h4 r1 hxs hd (by omega), ?_⟩
    · show PyData.eqv (SeqAt.readOf sh.heap its.toArray[j]) _ = true
      rw [at_ j hj z hz]
      exact hzj
    · intro m hm hmj
      have hmd : m < ds.length := by omega
      have hz' : ds[m]? = some ds[m] := List.getElem?_eq_getElem hmd
      show PyData.eqv (SeqAt.readOf sh.heap its.toArray[m]) _ = false
      rw [at_ m hm _ hz']
      exact hno m _ hmj hz'
    · exact ⟨.int (j : Nat), H, I.tok _, ⟨_, rfl⟩, kR _ _ (S.here (wInt _) q)⟩
  · exact q.elim
theorem m_count (F : Fm g i k Y) : MetD Y "list" "list.count" "count" tyL rCntD := by
  refine ⟨rSemM Y "list.count", PySem.F.plainAttrs_list, PySem.F.slot_list_count, PySem.F.type_list_count, mt_sem, fun S r h => tyL_is S r h, ?_⟩
  intro s H σ M x w vs ws Q R S r rs q kR
  unfold rCntD at q
  split at q
  · obtain ⟨a, xs, ds, rfl, h1, f1, ok, q⟩ := lstQ_get S.d r q
    obtain ⟨y, rfl, ry⟩ := rs.one
    intro pins sh s' v us I rv ru
    cases rv
    obtain ⟨u, rfl, ru'⟩ := ru.one
    obtain ⟨dd, its, n, sl, as, ho, h4, hn, hl⟩ := lst_obj I F.sy h1 f1
    obtain ⟨bs, r1, _⟩ := Fz.reads I F.sy _ y u ry ru'
    unfold inOk at ok
    simp only [Bool.and_eq_true, decide_eq_true_eq] at ok
    obtain ⟨⟨hxs, hd⟩, hdp⟩ := ok
    have hu := F.room.un
    have hmap : its.map (SeqAt.readOf sh.heap) = ds := SeqAt.readsAll_map ds its as hxs h4
    refine call_meets PySem.F.slot_list_count ⟨_, ho, rfl⟩ PySem.F.entry_list_count (PySem.F.args_list_count_2 _ _)
      (SeqAt.list_countAt a its.toArray n dd sl u (fun u => PyData.eqv (SeqAt.readOf sh.heap u) _)) ⟨ho, SeqAt.items_eqAt (vs := its.toArray) h4 r1 hxs hd (by omega), ?_⟩
    refine ⟨.int _, H, I.tok _, ⟨_, rfl⟩, kR _ _ (S.here (wInt _) ?_)⟩
    rw [← hmap, List.countP_map] at q
    exact q
  · exact q.elim
/-- xs.extend(ys), xs a list that changes -/
def rExtD : RMd := fun w us M Q => match w, us with
  | .ref p, [u] => ∃ ws, M p = some (.lst ws) ∧ lstQ u M fun ds => small (ws.length + ds.length) ∧ Q (.d .none) (mset M p (.lst (ws ++ ds.map W.d)))
  | _, _ => False
theorem m_extend : MetD Y "list" "list.extend" "extend" tyMut rExtD := by
  refine ⟨rExtend, PySem.F.plainAttrs_list, PySem.F.slot_list_extend, PySem.F.type_list_extend, mt_extend, fun S r h => tyMut_is S r h, ?_⟩
  intro s H σ M x w vs ws Q R S r rs q kR
  unfold rExtD at q
  split at q
  · obtain ⟨xs, hm, q⟩ := q
    obtain rfl := (show x = _ from r)
    obtain ⟨ys, h1, h2⟩ := S.d _ _ hm
    obtain ⟨v, rfl, rv⟩ := rs.one
    obtain ⟨a, us, ds, rfl, h3, h4, hz, q⟩ := lstQ_get S.d rv q
    exact ⟨_, a, ys, us, rfl, rfl, h1, h3, by rw [Paired.length h2, h4.length]; exact hz, kR _ _ (up_set S hm (h2.append h4.wv) wNone q)⟩
  · exact q.elim
/-! ### the greatest, the least of whole numbers in a list or a tuple -/
theorem alike_ints (ns : List Int) : PySem.W.AlikeAll (ns.map PyData.int) := by
  refine ⟨fun x hx y hy => ?_, fun x hx => ?_⟩
  · obtain ⟨a, _, rfl⟩ := List.mem_map.mp hx
    obtain ⟨b, _, rfl⟩ := List.mem_map.mp hy
    rfl
  · obtain ⟨a, _, rfl⟩ := List.mem_map.mp hx
    exact fun e => by cases e
theorem fold_max (ns : List Int) : ∀ n : Int, (ns.foldl max n) ∈ n :: ns ∧ ∀ y ∈ n :: ns, y ≤ ns.foldl max n := by
  induction ns with
  | nil => intro n; simp
  | cons a l ih =>
    intro n
    obtain ⟨h1, h2⟩ := ih (max n a)
    refine ⟨?_, fun y hy => ?_⟩
    · rw [List.foldl_cons]
      rcases List.mem_cons.mp h1 with e | e
      · rw [e]
        rcases Int.le_total n a with z | z
        · rw [Int.max_eq_right z]; simp
        · rw [Int.max_eq_left z]; simp
      · simp [e]
    · rw [List.foldl_cons]
      have m0 := h2 (max n a) List.mem_cons_self
      rcases List.mem_cons.mp hy with rfl | hy
      · omega
      · rcases List.mem_cons.mp hy with rfl | hy
        · omega
        · exact h2 y (List.mem_cons_of_mem _ hy)
def rMaxS : RCd := fun ws M Q => match ws with
  | [w] => seqQ w M fun ds _ => match intsD ds with | some ns => ns ≠ [] ∧ ∀ m, m ∈ ns → (∀ y, y ∈ ns → y ≤ m) → Q (.d (.int m)) M | none => False
  | _ => False
theorem c_maxS (F : Fm g i k Y) (hc : i.hot = false := by rfl) : OpC Y (.builtin "max") rMaxS := by
  intro s H σ M xs ws Q S rx q
  unfold rMaxS at q
  split at q
  · obtain ⟨v, rfl, r⟩ := rx.one
    obtain ⟨t, a, xs, ds, kc, rfl, h1, q, f1⟩ := seqQ_here S.d r q
    split at q
    · rename_i ns e
      obtain rfl := intsD_eq e
      obtain ⟨hne, q⟩ := q
      cases ns with
      | nil => exact absurd rfl hne
      | cons n ns =>
        intro pins sh s' us I ru
        obtain rfl := Vals.ref1 ru
        have hh : Y.X.A.handled = none := F.hd hc
        have hu := F.room.un
        have dp : PyData.depthAll ((n :: ns).map PyData.int) ≤ 1 := by
          have : ∀ l : List Int, PyData.depthAll (l.map PyData.int) = 0 := PySem.W.depth_ints
          rw [this]
          exact Nat.zero_le _
        obtain ⟨m1, m2⟩ := fold_max ns n
        have q2 := q _ m1 m2
        have fin : ∀ (v : Value) (h' : Heap) (tk : Nat) (bs : List Addr), Reads h' v (PySem.W.maxD (.int n) (ns.map PyData.int)) bs → (∀ b o, sh.heap.get? b = some o → h'.get? b = some o) → EP Y.X pins s' (up Y H M Q) v { sh with heap := h', toks := tk } := by
          intro v h' tk bs rd kp
          rw [PySem.W.maxD_ints] at rd
          cases rd
          exact ⟨.int _, H, I.kept (t' := tk) kp, ⟨_, rfl⟩, S.here (wInt _) q2⟩
        cases t with
        | true =>
          obtain ⟨its, rv, ⟨o, ho, hcl, m, hd⟩, _⟩ := I.tuple h1
          obtain ⟨as, rr, _⟩ := FzA.reads I F.sy _ _ its f1 rv
          exact PySem.W.max_tuple_data (vs := its.toArray) hh ⟨o, ho, hcl, m, hd⟩ rr (alike_ints (n :: ns)) (by rw [List.map_cons] at dp; omega) fun i v h' tk bs _ rd kp => fin v h' tk bs rd kp
        | false =>
          obtain ⟨its, rv, ⟨o, m, ho, hcl, _, hd⟩, _⟩ := I.list h1
          obtain ⟨as, rr, _⟩ := FzA.reads I F.sy _ _ its f1 rv
          exact PySem.W.max_list_data (vs := its.toArray) hh ⟨o, ho, hcl, m, hd⟩ rr (alike_ints (n :: ns)) (by rw [List.map_cons] at dp; omega) fun i v h' tk bs _ rd kp => fin v h' tk bs rd kp
    · exact q.elim
  · exact q.elim
/-- a, b = x, y where not both are plain local names -/
theorem s_setS (F : Fm g i k Y) {tg e : Expr} {t : TEd} {gt : TGd} {pos : Pos} (he : QE Y e t) (hg : QG Y tg gt) (hw' : ∀ env : Env, swappedStores [tg] e { env with scope := i.sc } = pure none := by intro; rfl) (hs : swapsWithSole [tg] e pos.line Y.X.env = pure false := by rfl)
    (h1 : (assignEach [tg] Y.X.env).map (·.2) = [assign tg Y.X.env] := by rfl) : QS Y (.Assign [tg] e pos) (tAsn t gt) := by
  have hw : swappedStores [tg] e Y.X.env = pure none := by
    have e' : Y.X.env = { Y.X.env with scope := i.sc } := by rw [← F.hsc]
    rw [e']
    exact hw' _
  exact s_set he hg hs hw h1
end
end Dl
set_option Elab.async false
set_option linter.all false
set_option maxRecDepth 100000
/-! lists: slices of those that change, some times; comprehensions that draw, giving a list that changes -/
namespace Dl
open PySem PySem.Spec PyProof.Rows L2
section
variable {g : Gc} {i : Si} {k : Nat} {Y : Dx}
def tSlL (te : TEd) (tl th : TOd) : TEd := fun σ M Q => te σ M fun w M1 => tl σ M1 fun lo M2 => th σ M2 fun hi M3 => lstQ w M3 fun ds => Q (.d (.list (cut ds lo hi))) M3
theorem q_slL {e : Expr} {lo hi : Option Expr} {te : TEd} {tl th : TOd} {p2 pos : Pos} (he : QE Y e te) (hl : QO Y lo tl) (hh : QO Y hi th) : QE Y (.Subscript e (.Slice lo hi none p2) pos) (tSlL te tl th) := by
  refine ⟨fun s H σ M Q S h => semE_of (pe_slice sl_list pe_sem po_sem po_sem) (he.then_ S h fun v H1 w M1 e d r q => fun pins sh I => ?_)⟩
  refine thn (hl.run _ _ _ _ _ (S.go e d) q pins sh I) fun u s1 ⟨o, H2, I2, p, M2, e2, d2, q2⟩ => ⟨o, H2, I2, p, fun pins sh I => ?_⟩
  refine thn (hh.run _ _ _ _ _ ((S.go e d).go e2 d2) q2 pins sh I) fun u s1 ⟨o3, H3, I3, p3, M3, e3, d3, q3⟩ => ⟨o3, H3, I3, p3, ?_⟩
  have S3 := ((S.go e d).go e2 d2).go e3 d3
  have r3 := (r.ext e2).ext e3
  have tr : ∀ {v : V} {H' : Hp}, up Y H3 M3 Q v H' → up Y H M Q v H' := fun z => z.trans ((e.trans e2).trans e3)
  obtain ⟨a, xs, ds, rfl, h1, h2, q4⟩ := lstQ_get d3 r3 q3
  exact ⟨a, xs, rfl, SqL.of h1, fun p n => tr (up_lst S3 n (h2.cut o o3) q4)⟩
/-- a list some times -/
def rRepL : R2d := fun a b M Q => match b with
  | .d (.int n) => lstQ a M fun ds => 0 ≤ n ∧ n ≤ 1000 ∧ ds.length ≤ 1000 ∧ Q (.d (.list (List.replicate n.toNat ds).flatten)) M
  | _ => False
theorem o_repL : Op2 Y (binaryOp .Mult) rRepL := by
  intro s H σ M x y a b Q S rx ry q
  unfold rRepL at q
  split at q
  · rename_i n
    obtain ⟨p, xs, ds, rfl, h1, h2, n0, n1, hl, q⟩ := lstQ_get S.d rx q
    have hx := h2.length
    have hz : xs.length * n.toNat ≤ sizeLine := by
      rw [sizeLine_eq]
      have : xs.length * n.toNat ≤ 1000 * 1000 := Nat.mul_le_mul (by omega) (by omega)
      omega
    exact semO_of op_rep ⟨p, n, xs, rfl, ry.int, h1, by omega, by omega, hz, fun r nr => up_lst S nr (h2.rep _) q⟩
  · exact q.elim
/-- two lists put together to one that changes -/
def rAddM : R2d := fun a b M Q => lstQ a M fun xs => lstQ b M fun ys => small (xs.length + ys.length) ∧ ∀ p, M p = none → Q (.ref p) (mset M p (.lst ((xs ++ ys).map W.d)))
theorem o_addM : Op2 Y (binaryOp .Add) rAddM := by
  intro s H σ M x y a b Q S rx ry q
  obtain ⟨p, vs, xs, rfl, h1, h2, q⟩ := lstQ_get S.d rx q
  obtain ⟨p', us, ys, rfl, h3, h4, hz, q⟩ := lstQ_get S.d ry q
  exact semO_of op_cat ⟨p, p', vs, us, rfl, rfl, h1, h3, by rw [h2.length, h4.length]; exact hz, fun r n => up_mut S n (h2.append h4).wv (q r (S.d.free n))⟩
end
/-- a list that changes of things drawn one by one from the pot at p, at most c draws each -/
theorem lcDrawM {ws : List W} {kc : MH → Prop} {M1 : MH} {σ : SD} {vs : List Nat} {T : Tg} {te : TEd} {R0 : Addr → MH → Prop} (p : Addr) (n c : Nat) (P : PyData → Prop) (hz : ws.length ≤ 16000000) (hkc : ∀ M, kc M) (hp : Pot p n M1)
    (he : ∀ (j : Nat) w, ws[j]? = some w → tgQ T w (wipeD σ vs) fun σ2 => ∀ M2, Pot p (n + c * j) M2 → Oth p M1 M2 → ∀ R : W → MH → Prop, (∀ x M3, P x → Pot p (n + c * j + c) M3 → Oth p M2 M3 → R (.d x) M3) → te σ2 M2 R)
    (q : ∀ (D : Addr) (ds : List PyData) M3, M1 D = none → ds.length = ws.length → (∀ d ∈ ds, P d) → M3 D = some (.lst (ds.map W.d)) → Pot p (n + c * ws.length) M3 → Oth p M1 M3 → R0 D M3) :
    ∀ D, M1 D = none → ∃ I : Nat → List W → MH → Prop, I 0 [] (mset M1 D (.lst [])) ∧ (∀ j acc M2, I j acc M2 → kc M2 ∧ M2 D = some (.lst acc)) ∧
      (∀ j w acc M2, ws[j]? = some w → I j acc M2 → tgQ T w (wipeD σ vs) fun σ2 => tAll σ2 M2 fun b M4 => if b = true then te σ2 M4 fun x M5 => M5 D = some (.lst acc) ∧ acc.length < sizeLine ∧ I (j + 1) (acc ++ [x]) (mset M5 D (.lst (acc ++ [x]))) else I (j + 1) acc M4) ∧
      (∀ acc M2, I ws.length acc M2 → R0 D M2) := by
  intro D nD
  have pD := hp.ne nD
  have sz := sizeLine_eq
  refine ⟨fun j acc M2 => j ≤ ws.length ∧ M2 D = some (.lst acc) ∧ Pot p (n + c * j) M2 ∧ Oth p M1 M2 ∧ ∃ ds : List PyData, acc = ds.map W.d ∧ ds.length = j ∧ ∀ d ∈ ds, P d, ?_, ?_, ?_, ?_⟩
  · refine ⟨Nat.zero_le _, mset_same, (hp.mono (by omega)).of (mset_ne pD), ?_, [], rfl, rfl, by simp⟩
    intro b o nb e
    rw [mset_ne (by rintro rfl; rw [nD] at e; cases e)]
    exact e
  · rintro j acc M2 ⟨_, h, _⟩
    exact ⟨hkc _, h⟩
  · rintro j w acc M2 hj ⟨hle, hD, hpj, ho, ds, rfl, hl, hP⟩
    have hj2 : j < ws.length := (List.getElem?_eq_some_iff.mp hj).1
    have fin : ∀ σ2, (∀ M2, Pot p (n + c * j) M2 → Oth p M1 M2 → ∀ R : W → MH → Prop, (∀ x M3, P x → Pot p (n + c * j + c) M3 → Oth p M2 M3 → R (.d x) M3) → te σ2 M2 R) → te σ2 M2 fun x M5 => M5 D = some (.lst (ds.map W.d)) ∧ (ds.map W.d).length < sizeLine ∧ (j + 1 ≤ ws.length ∧ (mset M5 D (.lst (ds.map W.d ++ [x]))) D = some (.lst (ds.map W.d ++ [x])) ∧ Pot p (n + c * (j + 1)) (mset M5 D (.lst (ds.map W.d ++ [x]))) ∧ Oth p M1 (mset M5 D (.lst (ds.map W.d ++ [x]))) ∧ ∃ es : List PyData, ds.map W.d ++ [x] = es.map W.d ∧ es.length = j + 1 ∧ ∀ d ∈ es, P d) := by
      intro σ2 h
      refine h M2 hpj ho _ fun x M3 px pp oo => ?_
      refine ⟨oo D _ (fun e => pD e.symm) hD, by rw [List.length_map, hl]; omega, by omega, mset_same, ?_, ?_, ds ++ [x], by simp, by simp [hl], ?_⟩
      · refine (pp.mono ?_).of (mset_ne pD)
        rw [Nat.mul_add, Nat.mul_one]
        omega
      · intro b o nb e
        rw [mset_ne (by rintro rfl; rw [nD] at e; cases e)]
        exact oo b o nb (ho b o nb e)
      · intro d hd
        rcases List.mem_append.mp hd with h1 | h1
        · exact hP d h1
        · rw [List.mem_singleton.mp h1]; exact px
    have z := he j w hj
    cases T with
    | one jt => exact fin _ z
    | many js =>
      unfold tgQ at z ⊢
      simp only at z ⊢
      split at z
      · exact ⟨z.1, fin _ z.2⟩
      · exact z.elim
  · rintro acc M2 ⟨_, hD, hpj, ho, ds, rfl, hl, hP⟩
    exact q D ds M2 nD hl hP hD hpj ho
end Dl
set_option Elab.async false
set_option linter.all false
set_option maxRecDepth 100000
/-! isinstance of a caught exception; what is known of own classes -/
namespace L2
open PySem PySem.Spec PyProof.Rows
/-- isinstance(e, c), e a tracked exception -/
def rIsX (K : PySem.W.Frag) : List V → Hp → VK → Prop := fun xs H Q => ∃ (a D : Addr) (c : V) (cv : Value) (b : Bool), xs = [.ref a, c] ∧ H a = some (Dl.ExL (.ref D) none a) ∧ ExcC K D ∧ ClsV c cv ∧ PySem.W.kitOne K (.ref D) cv = some b ∧ Q (.bl b) H
theorem call_isX {X : Cx} : CallR X (.builtin "isinstance") (rIsX X.K) := by
  intro pins s σ H xs us Q I r h
  obtain ⟨a, D, c, cv, b, rfl, ha, C, k, e, q⟩ := h
  obtain ⟨u1, u2, rfl, r1, r2⟩ := vals2 r
  have e2 := k.eq r2
  subst e2
  cases (show u1 = Value.ref a from r1)
  obtain ⟨⟨oe, vs, hget, hz, hv⟩, _⟩ := I.hok a _ ha
  have J : PySem.W.InstAt s.heap a oe D none := by
    obtain ⟨oc, od, oda, osl⟩ := oe
    obtain ⟨h1, h2⟩ := hz
    dsimp only at h1 h2 hv
    subst h1 h2 hv
    exact ⟨hget, rfl, rfl, trivial⟩
  exact PySem.W.kia_one (PySem.W.handS_kitx_exc C.hg C.hk C.hs C.hd C.ha C.hn C.ht C.hm) I.kIn J e (fun z => nomatch z) fun tk => ⟨.bl b, H, I.tok tk, rfl, q⟩
end L2
namespace Dl
open PySem PySem.Spec PyProof.Rows L2
/-- cls is one of the class that the name y tells, own or built-in -/
def IsB (g : Gc) (cls : Value) (y : Str) (b : Bool) : Prop := ∃ D cv, cls = .ref D ∧ ExcC g.K D ∧ ((g.mg y = some cv ∧ ∃ C, cv = .ref C) ∨ (g.mg y = none ∧ ∃ n, bootBuiltins y = some (.type n) ∧ cv = .type n)) ∧ PySem.W.kitOne g.K (.ref D) cv = some b
/-- a name that tells a class -/
def CNm (g : Gc) (y : Str) : Prop := (∃ C, g.mg y = some (.ref C)) ∨ (g.mg y = none ∧ ∃ n, bootBuiltins y = some (.type n))
def isAll (g : Gc) (cls : Value) : List (Str × Bool) → Prop
  | [] => True
  | (y, b) :: r => IsB g cls y b ∧ isAll g cls r
def kAll (K : PySem.W.Frag) (t : Value) : List (Value × Bool) → Prop
  | [] => True
  | (c, b) :: r => PySem.W.kitOne K t c = some b ∧ kAll K t r
def nmAll (g : Gc) : List (Str × Value × Bool) → Prop
  | [] => True
  | (y, cv, _) :: r => ((g.mg y = some cv ∧ ∃ C, cv = .ref C) ∨ (g.mg y = none ∧ ∃ n, bootBuiltins y = some (.type n) ∧ cv = .type n)) ∧ nmAll g r
theorem ecl_of {g : Gc} {x : Str} {v : Value} (h : g.mg x = some v) : ecl g x = v := by
  unfold ecl
  rw [h]
  rfl
theorem enm_of {g : Gc} {x : Str} {v : Value} (h : g.mg x = some v) : ENm g x (ecl g x) := ⟨.inl (by rw [ecl_of h]; exact h)⟩
theorem exm_of {g : Gc} {x y : Str} {v u : Value} {b : Bool} (h : g.mg x = some v) (h2 : g.mg y = some u) (e : PySem.W.exmOne g.K v u = some b) : PySem.W.exmOne g.K (ecl g x) (ecl g y) = some b := by
  rw [ecl_of h, ecl_of h2]
  exact e
theorem isAll_of {g : Gc} {x : Str} {D : Addr} (h : g.mg x = some (.ref D)) (xc : ExcC g.K D) : ∀ {ps : List (Str × Value × Bool)}, nmAll g ps → kAll g.K (.ref D) (ps.map (·.2)) → isAll g (ecl g x) (ps.map fun p => (p.1, p.2.2))
  | [], _, _ => trivial
  | (y, cv, b) :: r, n, q => ⟨⟨D, cv, ecl_of h, xc, n.1, q.1⟩, isAll_of h xc n.2 q.2⟩
section
variable {g : Gc} {i : Si} {k : Nat} {Y : Dx}
def tIsx (g : Gc) (y : Str) (te : TEd) : TEd := fun σ M Q => te σ M fun w M1 => ∃ p cls b, w = .ref p ∧ M1 p = some (.exc cls none) ∧ IsB g cls y b ∧ Q (.d (.bool b)) M1
theorem q_isx (F : Fm g i k Y) (j jc : Nat) {y : Str} {e : Expr} {te : TEd} {p p2 pos : Pos} (hm : g.mg "isinstance" = none) (hy : CNm g y) (he : QE Y e te)
    (hj : i.gls[j]? = some "isinstance" := by rfl) (hjc : i.gls[jc]? = some y := by rfl)
    (hse : starEach [e, .Name y p2] Y.X.env = (false, eval e Y.X.env) :: starEach [.Name y p2] Y.X.env := by rfl) (hpl : (backTo pos (starEach [.Name y p2] Y.X.env)).any (·.1) = false := by rfl) : QE Y (.Call (.Name "isinstance" p) [e, .Name y p2] [] pos) (tIsx g y te) := by
  obtain ⟨h1, h2, h3⟩ := F.glo j _ hj
  obtain ⟨k1, k2, k3⟩ := F.glo jc _ hjc
  refine ⟨fun s H σ M Q S h => ?_⟩
  rcases hy with ⟨C, hy⟩ | ⟨hy0, n, hb⟩
  · refine semE_of (pe_callB call_isX h1 (by rw [F.hmg]; exact hm) boot_isinstance (pa_cons (pe_sem (e := e)) (pa_cons (pe_glob (v := .ref C) (u := .ref C) k1 (by rw [F.hmg]; exact hy) rfl k2) pa_nil) hse) h3 h2 hse hpl) (he.then_ S h fun v H1 w M1 e1 d r q => ?_)
    obtain ⟨a, cls, b, rfl, ha, ⟨D, cv, rfl, xc, hcv, hk⟩, q⟩ := q
    have ecv : cv = .ref C := by
      rcases hcv with ⟨z, _⟩ | ⟨z, _⟩
      · rw [hy] at z; exact (Option.some.inj z).symm
      · rw [hy] at z; cases z
    subst ecv
    obtain ⟨dd, hH, hx⟩ := d _ _ ha
    have ed : dd = none := by
      cases dd with
      | none => rfl
      | some _ => exact hx.elim
    subst ed
    exact ⟨a, D, .ref C, .ref C, b, by rw [show v = .ref a from r], hH, by rw [F.hK]; exact xc, .own C, by rw [F.hK]; exact hk, ((S.go e1 d).here (wBool _) q).trans e1⟩
  · refine semE_of (pe_callB call_isX h1 (by rw [F.hmg]; exact hm) boot_isinstance (pa_cons (pe_sem (e := e)) (pa_cons (pe_bltn (v := .ty n) (u := .type n) k1 (by rw [F.hmg]; exact hy0) hb rfl k3 k2) pa_nil) hse) h3 h2 hse hpl) (he.then_ S h fun v H1 w M1 e1 d r q => ?_)
    obtain ⟨a, cls, b, rfl, ha, ⟨D, cv, rfl, xc, hcv, hk⟩, q⟩ := q
    have ecv : cv = .type n := by
      rcases hcv with ⟨z, _⟩ | ⟨_, n', z, rfl⟩
      · rw [hy0] at z; cases z
      · rw [hb] at z
        cases z
        rfl
    subst ecv
    obtain ⟨dd, hH, hx⟩ := d _ _ ha
    have ed : dd = none := by
      cases dd with
      | none => rfl
      | some _ => exact hx.elim
    subst ed
    exact ⟨a, D, .ty n, .type n, b, by rw [show v = .ref a from r], hH, by rw [F.hK]; exact xc, .ty n, by rw [F.hK]; exact hk, ((S.go e1 d).here (wBool _) q).trans e1⟩
/-- what is never reached -/
theorem q_never {e : Expr} : QE Y e (fun _ _ _ => False) := ⟨fun _ _ _ _ _ _ h => h.elim⟩
end
end Dl
set_option Elab.async false
set_option linter.all false
set_option maxRecDepth 100000
/-! instances of own classes: fields, methods, making -/
namespace Dl
open PySem PySem.Spec PyProof.Rows L2
/-- the class object that the module's name x tells -/
def clsA (g : Gc) (x : Str) : Addr := match g.mg x with | some (.ref C) => C | _ => 0
theorem clsA_of {g : Gc} {x : Str} {C : Addr} (h : g.mg x = some (.ref C)) : clsA g x = C := by unfold clsA; rw [h]
theorem wvF_look {K : PySem.W.Frag} {H : Hp} {M : MH} {f : Str} {w : W} : ∀ {vs : List (Str × V)} {fs : List (Str × W)}, WvF K H M vs fs → fs.lookup f = some w → ∃ v, vs.lookup f = some v ∧ Wv K H M v w
  | _, _, .nil, e => nomatch e
  | (a, v) :: vs, (b, u) :: fs, .cons h t, e => by
    obtain ⟨h1, h2⟩ := h
    simp only at h1 h2
    subst h1
    simp only [List.lookup_cons] at e ⊢
    split at e
    · cases e
      exact ⟨v, rfl, h2⟩
    · exact wvF_look t e
theorem wvF_none {K : PySem.W.Frag} {H : Hp} {M : MH} {f : Str} : ∀ {vs : List (Str × V)} {fs : List (Str × W)}, WvF K H M vs fs → fs.lookup f = none → vs.lookup f = none
  | _, _, .nil, _ => rfl
  | (a, v) :: vs, (b, u) :: fs, .cons h t, e => by
    obtain ⟨h1, h2⟩ := h
    simp only at h1 h2
    subst h1
    simp only [List.lookup_cons] at e ⊢
    split at e
    · cases e
    · exact wvF_none t e
/-- a field put -/
def putD (f : Str) (w : W) : List (Str × W) → List (Str × W)
  | [] => [(f, w)]
  | (g, x) :: r => if g = f then (g, w) :: r else (g, x) :: putD f w r
theorem wvF_put {K : PySem.W.Frag} {H : Hp} {M : MH} {f : Str} {v : V} {w : W} (h : Wv K H M v w) : ∀ {vs : List (Str × V)} {fs : List (Str × W)}, WvF K H M vs fs → WvF K H M (putF f v vs) (putD f w fs)
  | _, _, .nil => .cons ⟨rfl, h⟩ .nil
  | (a, v') :: vs, (b, u) :: fs, .cons q t => by
    obtain ⟨h1, h2⟩ := q
    simp only at h1 h2
    subst h1
    unfold putF putD
    split
    · exact .cons ⟨rfl, h⟩ t
    · exact .cons ⟨rfl, h2⟩ (wvF_put h t)
section
variable {g : Gc} {i : Si} {k : Nat} {Y : Dx}
def tFldD (C : Addr) (te : TEd) (f : Str) : TEd := fun σ M Q => te σ M fun w M1 => ∃ p fs v, w = .ref p ∧ M1 p = some (.ins C fs) ∧ fs.lookup f = some v ∧ Q v M1
theorem q_fld (F : Fm g i k Y) {C : Addr} {e : Expr} {f : Str} {te : TEd} {pos : Pos} (c : Cls g.K C) (n : NoAttr g.K C f) (he : QE Y e te) (hb : attributeBase e f Y.X.env (eval e Y.X.env) = eval e Y.X.env := by rfl) : QE Y (.Attribute e f pos) (tFldD C te f) := by
  refine ⟨fun s H σ M Q S h => semE_of (pe_fld pe_sem hb) (he.then_ S h fun v H1 w M1 e1 d r q => ?_)⟩
  obtain ⟨p, fs, u, rfl, hp, hl, q⟩ := q
  obtain ⟨dx, vs, h1, h2⟩ := d _ _ hp
  obtain ⟨x, h3, h4⟩ := wvF_look h2 hl
  exact ⟨p, C, dx, vs, x, (show v = .ref p from r), h1, by rw [F.hK]; exact c, by rw [F.hK]; exact n, h3, ((S.go e1 d).here h4 q).trans e1⟩
def sFldD (C : Addr) (te tv : TEd) (f : Str) : TSd := fun D σ M => tv σ M fun y M1 => te σ M1 fun x M2 => ∃ p fs, x = .ref p ∧ M2 p = some (.ins C fs) ∧ fs.length < 1000 ∧ D.nx σ (mset M2 p (.ins C (putD f y fs)))
theorem put_len {f : Str} {v : V} : ∀ (fs : List (Str × V)), (putF f v fs).length ≤ fs.length + 1
  | [] => Nat.le_refl _
  | (g, x) :: r => by
    unfold putF
    split
    · simp
    · have := put_len (f := f) (v := v) r
      simp only [List.length_cons]
      omega
theorem s_fld (F : Fm g i k Y) {C : Addr} {o value : Expr} {f : Str} {te tv : TEd} {pos pos' : Pos} (c : Cls g.K C) (n : NoAttr g.K C f) (ho : QE Y o te) (hv : QE Y value tv)
    (hs : swapsWith value (some (.Attribute o f pos')) pos.line Y.X.env = pure false := by rfl) : QS Y (.Assign [.Attribute o f pos'] value pos) (sFldD C te tv f) := by
  refine ⟨fun s H σ M D S h => semS_of (ps_fld pe_sem pe_sem hs) ?_⟩
  refine hv.then_ S h fun v H1 y M1 e1 d1 r1 q => ?_
  have S1 := S.go e1 d1
  refine ho.then_ S1 q fun u H2 w M2 e2 d2 r2 q2 => ?_
  obtain ⟨p, fs, rfl, hp, hl, q3⟩ := q2
  obtain ⟨dx, vs, h1, h2⟩ := d2 _ _ hp
  have S2 := S1.go e2 d2
  have lv : vs.length = fs.length := Paired.length h2
  refine ⟨p, C, dx, vs, (show u = .ref p from r2), h1, by rw [F.hK]; exact c, by rw [F.hK]; exact n, by omega, ?_⟩
  have nn : M2 p ≠ none := by rw [hp]; exact fun z => by cases z
  have e3 : Ext H2 M2 (upd H2 p (.ins C dx (putF f v vs))) (mset M2 p (.ins C (putD f y fs))) := ext_mut (.inl nn)
  have r1' := r1.ext e2
  have d3 := dok_mut (u := .ins C (putD f y fs)) d2 (.inl nn) fun e => ⟨dx, _, upd_same, wvF_put (r1'.ext e) (WvF.ext e h2)⟩
  exact ⟨σ, _, (e1.trans e2).trans e3, S2.go e3 d3, q3⟩
/-- a def that stands in a class -/
structure DfM (g : Gc) (k : Nat) (C : Addr) (m : Str) (ps : List Str) (sp : SpD) (hot : Bool := false) : Prop where
  ex : ∃ f fd, FnG g k f fd ps sp hot ∧ Meth g.K C m f ∧ Binds g.K fd ps []
def tMthD (C : Addr) (m : Str) (sp : SpD) (wd : Value → XF → SD → MH → Prop) (te : TEd) (t : TAd) : TEd := fun σ M Q => te σ M fun w M1 => ∃ p fs, w = .ref p ∧ M1 p = some (.ins C fs) ∧ fs.lookup m = none ∧ t σ M1 fun ws M2 => sp (.ref p :: ws) M2 Q (fun cls xf M' => wd cls xf σ M')
theorem q_methW {wd : Value → XF → SD → MH → Prop} (hw : Y.wd = wd) (F : Fm g i k Y) {C : Addr} {j : Nat} {m : Str} {ps : List Str} {sp : SpD} {o e : Expr} {es : List Expr} {te : TEd} {t : TAd} {apos pos : Pos} {hot : Bool} {pl : Sem Bool} (c : Cls g.K C) (D : DfM g j C m ps sp hot) (ho : QE Y o te) (ha : QA Y (e :: es) t) (hj : j ≤ k := by first | exact Nat.le_refl _ | decide | omega)
    (hh : hot = true ∨ i.hot = false := by first | exact .inr rfl | exact .inl rfl)
    (hst : starEach (e :: es) Y.X.env = (false, eval e Y.X.env) :: starEach es Y.X.env := by rfl) (hpl : (backTo pos (starEach es Y.X.env)).any (·.1) = false := by rfl)
    (ht : eval (.Call (.Attribute o m apos) (e :: es) [] pos) Y.X.env = (do
      let ov ← eval o Y.X.env
      standAt apos.atName
      let (f, first) ← holding [ov] (getMethod ov m pl)
      callWith pos f first (backTo pos (starEach (e :: es) Y.X.env)) (backToKw pos (keywordEach [] Y.X.env))) := by rfl) : QE Y (.Call (.Attribute o m apos) (e :: es) [] pos) (tMthD C m sp wd te t) := by
  subst hw
  obtain ⟨f, fd, FD, hm, hb⟩ := D.ex
  refine ⟨fun s H σ M Q S h pins sh I => ?_⟩
  have c' : Cls Y.X.K C := by rw [F.hK]; exact c
  have hm' : Meth Y.X.K C m f := by rw [F.hK]; exact hm
  refine PySem.W.methodCall_KW (pl := pl) (thn (ho.run s H σ M _ S h pins sh I) fun u s1 ⟨x, H1, I1, rx, w, M1, e1, d1, r1, q1⟩ => ?_) ht
  obtain ⟨p, fs, rfl, hp, hl, q1⟩ := q1
  obtain ⟨dx, vs, g1, g2⟩ := d1 _ _ hp
  obtain rfl : x = .ref p := r1
  obtain rfl : u = Value.ref p := rx
  refine getmeth_ok I1 g1 c' hm' (wvF_none g2 hl) ?_
  have S1 := S.go e1 d1
  refine PySem.W.callWith_K (first := [.ref p]) (h₀ := Y.X.base) I.ok.mod.kin hm'.kp (thn ((ha.run s H1 σ M1 _ S1 q1) pos pins s1 I1) fun us s2 ⟨vs2, H2, I2, r2, ws, M2, e2, d2, r3, q2⟩ => ⟨I2.kIn, ?_⟩) hst hpl
  exact thn (fn_run F FD hh hj hb (S1.go e2 d2) (us := .ref p :: us) (vs := .ref p :: vs2) (ws := .ref p :: ws) (.cons rfl r3) q2 I2 (.cons rfl r2)) fun _ _ ⟨v, H3, I3, r4, z⟩ => ⟨v, H3, I3, r4, z.trans (e1.trans e2)⟩
theorem q_meth0W {wd : Value → XF → SD → MH → Prop} (hw : Y.wd = wd) (F : Fm g i k Y) {C : Addr} {j : Nat} {m : Str} {ps : List Str} {sp : SpD} {o : Expr} {te : TEd} {apos pos : Pos} {hot : Bool} {pl : Sem Bool} (c : Cls g.K C) (D : DfM g j C m ps sp hot) (ho : QE Y o te) (hj : j ≤ k := by first | exact Nat.le_refl _ | decide | omega)
    (hh : hot = true ∨ i.hot = false := by first | exact .inr rfl | exact .inl rfl)
    (ht : eval (.Call (.Attribute o m apos) [] [] pos) Y.X.env = (do
      let ov ← eval o Y.X.env
      standAt apos.atName
      let (f, first) ← holding [ov] (getMethod ov m pl)
      callWith pos f first (backTo pos (starEach [] Y.X.env)) (backToKw pos (keywordEach [] Y.X.env))) := by rfl) : QE Y (.Call (.Attribute o m apos) [] [] pos) (tMthD C m sp wd te tNilA) := by
  subst hw
  obtain ⟨f, fd, FD, hm, hb⟩ := D.ex
  refine ⟨fun s H σ M Q S h pins sh I => ?_⟩
  have c' : Cls Y.X.K C := by rw [F.hK]; exact c
  have hm' : Meth Y.X.K C m f := by rw [F.hK]; exact hm
  refine PySem.W.methodCall_KW (pl := pl) (thn (ho.run s H σ M _ S h pins sh I) fun u s1 ⟨x, H1, I1, rx, w, M1, e1, d1, r1, q1⟩ => ?_) ht
  obtain ⟨p, fs, rfl, hp, hl, q1⟩ := q1
  obtain ⟨dx, vs, g1, g2⟩ := d1 _ _ hp
  obtain rfl : x = .ref p := r1
  obtain rfl : u = Value.ref p := rx
  refine getmeth_ok I1 g1 c' hm' (wvF_none g2 hl) ?_
  have S1 := S.go e1 d1
  refine PySem.W.callWith_K0 (first := [.ref p]) I1.kIn hm'.kp ?_
  exact thn (fn_run F FD hh hj hb S1 (us := [.ref p]) (vs := [.ref p]) (ws := [.ref p]) (.cons rfl .nil) q1 I1 (.cons rfl .nil)) fun _ _ ⟨v, H3, I3, r4, z⟩ => ⟨v, H3, I3, r4, z.trans e1⟩
theorem RmH.make {k : Nat} {A : Around} (r : RmH (k + 1) A) (C : Addr) (us : List Value) (kw : List (Str × Value)) : RmH k (A.under (.builtin "type.__call__" ⟨.ref C :: us, kw⟩)) :=
  ⟨by have := r.dp; rw [make_depth]; omega, by have := r.un; rw [make_units]; omega⟩
/-- C(..), __init__ a def of the text -/
def tMakD (C : Addr) (sp : SpD) (wd : Value → XF → SD → MH → Prop) (t : TAd) : TEd := fun σ M Q => t σ M fun ws M1 => ∀ p, M1 p = none → sp (.ref p :: ws) (mset M1 p (.ins C [])) (fun w M2 => w = .d .none ∧ Q (.ref p) M2) (fun cls xf M' => wd cls xf σ M')
theorem make_run (F : Fm g i k Y) {C f : Addr} {j : Nat} {fd : FuncData} {ps : List Str} {sp : SpD} {hot : Bool} (mk : L2.Mk g.K C f) (D : FnG g j f fd ps sp hot) (hh : hot = true ∨ i.hot = false) (hj : j + 1 ≤ k) (hb : Binds g.K fd ps []) {s H σ M vs ws Q} (S : Std Y s H σ M) (r : WvA Y.X.K H M vs ws)
    (h : ∀ p, M p = none → sp (.ref p :: ws) (mset M p (.ins C [])) (fun w M2 => w = .d .none ∧ Q (.ref p) M2) (fun cls fs M' => Y.wd cls fs σ M')) {pins : List (Addr × Obj)} {sh : Shared} {us : List Value}
    (I : Inv Y.X pins s H sh) (ru : Vals vs us) : wpAny (model Y.X.prog Y.X.w) Y.X.A (call (.ref C) us) (EP Y.X pins s (up Y H M Q)) Y.X.xe sh := by
  have nx : H (sh.heap.objs.size + 1) = none := I.hok.fresh (Nat.le_succ _)
  have nd : H sh.heap.objs.size = none := I.hok.fresh (Nat.le_refl _)
  have ne : sh.heap.objs.size + 1 ≠ sh.heap.objs.size := Nat.ne_of_gt (Nat.lt_succ_self _)
  have I2 := Inv.made (C := C) I
  have md := S.d.free nd
  have mx := S.d.free nx
  have hq := h _ mx
  have e1 : Ext H M (upd H sh.heap.objs.size (.own (sh.heap.objs.size + 1))) M := ext_new nd md
  have d1 : Dok Y.X.K (upd H sh.heap.objs.size (.own (sh.heap.objs.size + 1))) M := dok_new S.d nd
  have nx1 : upd H sh.heap.objs.size (.own (sh.heap.objs.size + 1)) (sh.heap.objs.size + 1) = none := by rw [upd_ne ne]; exact nx
  have e2 : Ext (upd H sh.heap.objs.size (.own (sh.heap.objs.size + 1))) M (upd (upd H sh.heap.objs.size (.own (sh.heap.objs.size + 1))) (sh.heap.objs.size + 1) (.ins C sh.heap.objs.size [])) (mset M (sh.heap.objs.size + 1) (.ins C [])) := ext_mut (.inr nx1)
  have d2 : Dok Y.X.K (upd (upd H sh.heap.objs.size (.own (sh.heap.objs.size + 1))) (sh.heap.objs.size + 1) (.ins C sh.heap.objs.size [])) (mset M (sh.heap.objs.size + 1) (.ins C [])) := dok_mut (u := .ins C []) d1 (.inr nx1) fun _ => ⟨_, [], upd_same, .nil⟩
  have e12 := e1.trans e2
  have r2 : WvA Y.X.K (upd (upd H sh.heap.objs.size (.own (sh.heap.objs.size + 1))) (sh.heap.objs.size + 1) (.ins C sh.heap.objs.size [])) (mset M (sh.heap.objs.size + 1) (.ins C [])) (V.ref (sh.heap.objs.size + 1) :: vs) (W.ref (sh.heap.objs.size + 1) :: ws) := .cons rfl (WvA.ext e12 r)
  have ru2 : Vals (V.ref (sh.heap.objs.size + 1) :: vs) (Value.ref (sh.heap.objs.size + 1) :: us) := .cons rfl ru
  have lw := D.len _ _ _ _ hq
  have lu : (Value.ref (sh.heap.objs.size + 1) :: us).length = ps.length := by rw [← ru2.length, Paired.length r2, lw]
  have bd := hb _ (Value.ref (sh.heap.objs.size + 1) :: us) (by rw [← F.hK]; exact I2.kIn) (by rw [List.append_nil]; exact lu)
  rw [List.append_nil] at bd
  have S2 := (S.go e1 d1).go e2 d2
  have hl : lift g.K sp (V.ref (sh.heap.objs.size + 1) :: vs) (upd (upd H sh.heap.objs.size (.own (sh.heap.objs.size + 1))) (sh.heap.objs.size + 1) (.ins C sh.heap.objs.size [])) (fun v H2 => v = .non ∧ up Y H M Q (.ref (sh.heap.objs.size + 1)) H2) (fun cls d H' => upX Y Y.wd cls d s H') := by
    refine ⟨_, mset M (sh.heap.objs.size + 1) (.ins C []), _, _, by rw [← F.hK]; exact d2, by rw [← F.hK]; exact r2, hq, fun v H' w M' e d r q => ?_, fun cls d H' fs M' e dk xf w => ?_⟩
    · obtain ⟨rfl, q⟩ := q
      exact ⟨by cases r; rfl, .ref _, M', e12.trans e, by rw [F.hK]; exact d, rfl, q⟩
    · exact ⟨σ, M', fs, S2.go e (by rw [F.hK]; exact dk), by rw [F.hK]; exact xf, w⟩
  have e0 := I2.env0.make C us []
  rw [F.hP, F.hw, F.hK, F.hmg, F.hb] at e0
  have z := D.run (Y.X.A.under (.builtin "type.__call__" ⟨.ref C :: us, []⟩)) Y.X.stack _ _ ⟨Value.ref (sh.heap.objs.size + 1) :: us, []⟩ (Value.ref (sh.heap.objs.size + 1) :: us) _ _ _ F.gd (fun z => by rcases hh with h | h; (rw [h] at z; cases z); exact F.hd h) ((F.room.mono hj).make C us []) e0 bd ru2 hl
  have mk' : L2.Mk Y.X.K C f := by rw [F.hK]; exact mk
  rw [← F.hP, ← F.hw] at z
  refine wpAny_call (make_map (f := f) I.kIn mk'.makes mk'.init (beq_iff_eq.mp mk'.fn) (codeAny_mono z fun res s' hq' => ?_))
  cases res with
  | error e => exact passAt F.tk s pins _ _ e s' I2 hq'
  | ok fl =>
    cases fl with
    | ret u =>
      obtain ⟨v, H', I3, rv, ev, q3⟩ := I2.after hq'
      subst ev
      exact ⟨rv, ⟨V.ref (sh.heap.objs.size + 1), H', I3, rfl, q3⟩⟩
    | next => exact False.elim hq'
    | brk => exact False.elim hq'
    | cont => exact False.elim hq'
/-- a class that makes, with what its __init__ does -/
structure MkM (g : Gc) (j : Nat) (x : Str) (ps : List Str) (sp : SpD) (hot : Bool := false) : Prop where
  ex : ∃ f fd, L2.Mk g.K (clsA g x) f ∧ FnG g j f fd ps sp hot ∧ g.mg x = some (.ref (clsA g x)) ∧ Binds g.K fd ps []
theorem q_makeW {wd : Value → XF → SD → MH → Prop} (hw : Y.wd = wd) (F : Fm g i k Y) (jx : Nat) {j : Nat} {x : Str} {ps : List Str} {sp : SpD} {e : Expr} {es : List Expr} {t : TAd} {p pos : Pos} {hot : Bool} (D : MkM g j x ps sp hot) (ha : QA Y (e :: es) t) (hm : j + 1 ≤ k := by first | exact Nat.le_refl _ | decide | omega)
    (hj : i.gls[jx]? = some x := by rfl) (hh : hot = true ∨ i.hot = false := by first | exact .inr rfl | exact .inl rfl)
    (he : starEach (e :: es) Y.X.env = (false, eval e Y.X.env) :: starEach es Y.X.env := by rfl) (hpl : (backTo pos (starEach es Y.X.env)).any (·.1) = false := by rfl) : QE Y (.Call (.Name x p) (e :: es) [] pos) (tMakD (clsA g x) sp wd t) := by
  subst hw
  obtain ⟨h1, h2, h3⟩ := F.glo jx x hj
  obtain ⟨f, fd, mk, FD, mgf, hb⟩ := D.ex
  have mk' : L2.Mk Y.X.K (clsA g x) f := by rw [F.hK]; exact mk
  refine ⟨fun s H σ M Q S h pins sh I => ?_⟩
  refine wpAny_Call_Name_kw (ld_glob I h1 (by rw [F.hmg]; exact mgf) ?_ h2)
  refine PySem.W.callWith_K (h₀ := Y.X.base) I.ok.mod.kin mk'.kp (thn ((ha.run s H σ M _ S h) pos pins sh I) fun us s1 ⟨vs, H1, I1, r, ws, M1, e1, d1, r1, q1⟩ => ⟨I1.kIn, ?_⟩) he hpl
  exact thn (make_run F mk FD hh hm hb (S.go e1 d1) r1 q1 I1 r) fun _ _ ⟨v, H2, I2, r2, z⟩ => ⟨v, H2, I2, r2, z.trans e1⟩
theorem q_make0W {wd : Value → XF → SD → MH → Prop} (hw : Y.wd = wd) (F : Fm g i k Y) (jx : Nat) {j : Nat} {x : Str} {ps : List Str} {sp : SpD} {p pos : Pos} {hot : Bool} (D : MkM g j x ps sp hot) (hm : j + 1 ≤ k := by first | exact Nat.le_refl _ | decide | omega)
    (hj : i.gls[jx]? = some x := by rfl) (hh : hot = true ∨ i.hot = false := by first | exact .inr rfl | exact .inl rfl) : QE Y (.Call (.Name x p) [] [] pos) (tMakD (clsA g x) sp wd tNilA) := by
  subst hw
  obtain ⟨h1, h2, h3⟩ := F.glo jx x hj
  obtain ⟨f, fd, mk, FD, mgf, hb⟩ := D.ex
  have mk' : L2.Mk Y.X.K (clsA g x) f := by rw [F.hK]; exact mk
  refine ⟨fun s H σ M Q S h pins sh I => ?_⟩
  refine wpAny_Call_Name_kw (ld_glob I h1 (by rw [F.hmg]; exact mgf) ?_ h2)
  exact PySem.W.callWith_K0 I.kIn mk'.kp (make_run F mk FD hh hm hb S .nil h I .nil)
/-- e.f op= a number -/
def tFldAug (C : Addr) (te tv : TEd) (fn : Int → Int → Int) (f : Str) : TSd := fun D σ M => te σ M fun x M1 => ∃ p fs n, x = .ref p ∧ M1 p = some (.ins C fs) ∧ fs.lookup f = some (.d (.int n)) ∧
  tv σ M1 fun y M2 => ∃ b fs', y = .d (.int b) ∧ M2 p = some (.ins C fs') ∧ fs'.length < 1000 ∧ D.nx σ (mset M2 p (.ins C (putD f (.d (.int (fn n b))) fs')))
theorem s_fldaug (F : Fm g i k Y) {C : Addr} {o value : Expr} {op : Operator} {fn : Int → Int → Int} {f : Str} {te tv : TEd} {pos tpos : Pos} (c : Cls g.K C) (n : NoAttr g.K C f) (hp : PIp Y.X op (ipI fn)) (ho : QE Y o te) (hv : QE Y value tv) :
    QS Y (.AugAssign (.Attribute o f tpos) op value pos) (tFldAug C te tv fn f) := by
  refine ⟨fun s H σ M D S h => semS_of (ps_fldaug pe_sem pe_sem hp) ?_⟩
  refine ho.then_ S h fun u H1 w M1 e1 d1 r1 q => ?_
  obtain ⟨p, fs, m, rfl, hM, hl, q⟩ := q
  obtain ⟨dx, vs, h1, h2⟩ := d1 _ _ hM
  obtain ⟨x, h3, h4⟩ := wvF_look h2 hl
  have hx : x = .int m := h4.int
  subst hx
  have S1 := S.go e1 d1
  refine ⟨p, C, dx, vs, _, (show u = .ref p from r1), h1, by rw [F.hK]; exact c, by rw [F.hK]; exact n, h3, ?_⟩
  refine hv.then_ S1 q fun y H2 wy M2 e2 d2 r2 q2 => ?_
  obtain ⟨b, fs', rfl, hM2, hl2, q3⟩ := q2
  have hy : y = .int b := r2.int
  subst hy
  obtain ⟨dx2, vs2, g1, g2⟩ := d2 _ _ hM2
  have S2 := S1.go e2 d2
  have lv : vs2.length = fs'.length := Paired.length g2
  refine ⟨m, b, rfl, rfl, dx2, vs2, g1, by omega, ?_⟩
  have nn : M2 p ≠ none := by rw [hM2]; exact fun z => by cases z
  have e3 : Ext H2 M2 (upd H2 p (.ins C dx2 (putF f (.int (fn m b)) vs2))) (mset M2 p (.ins C (putD f (.d (.int (fn m b))) fs'))) := ext_mut (.inl nn)
  have d3 := dok_mut (u := .ins C (putD f (.d (.int (fn m b))) fs')) d2 (.inl nn) fun e => ⟨dx2, _, upd_same, wvF_put (w := .d (.int (fn m b))) (Fz.int _) (WvF.ext e g2)⟩
  exact ⟨σ, _, (e1.trans e2).trans e3, S2.go e3 d3, q3⟩
end
end Dl
set_option Elab.async false
set_option linter.all false
set_option maxRecDepth 100000
/-! methods: pop(), join, split; conversions of texts -/
namespace Dl
open PySem PySem.Spec PyProof.Rows L2
def rPopL : RMd := fun w us M Q => match w, us with
  | .ref p, [] => ∃ ws, M p = some (.lst ws) ∧ ∃ u, ws[ws.length - 1]? = some u ∧ Q u (mset M p (.lst ws.dropLast))
  | _, _ => False
theorem drop_paired {α β : Type} {R : α → β → Prop} : ∀ {xs : List α} {ys : List β}, Paired R xs ys → Paired R xs.dropLast ys.dropLast
  | _, _, .nil => .nil
  | _, _, .cons _ .nil => .nil
  | _, _, .cons r (.cons r2 t) => .cons r (drop_paired (.cons r2 t))
section
variable {g : Gc} {i : Si} {k : Nat} {Y : Dx}
theorem m_pop : MetD Y "list" "list.pop" "pop" tyMut rPopL := by
  refine ⟨rPop, PySem.F.plainAttrs_list, PySem.F.slot_list_pop, PySem.F.type_list_pop, mt_pop, fun S r h => tyMut_is S r h, ?_⟩
  intro s H σ M x w vs ws Q R S r rs q k
  unfold rPopL at q
  split at q
  · obtain ⟨xs, hm, u, hu, q⟩ := q
    obtain rfl := (show x = _ from r)
    obtain ⟨ys, h1, h2⟩ := S.d _ _ hm
    cases rs
    obtain ⟨y, e1, e2⟩ := paired_at h2 hu
    exact ⟨_, ys, y, rfl, rfl, h1, by rw [Paired.length h2]; exact e1, k _ _ (up_set S hm (drop_paired h2) e2 q)⟩
  · exact q.elim
theorem fz_strs {K : PySem.W.Frag} {H : Hp} {M : MH} : ∀ {zs : List Str} {xs : List V}, FzA K H M xs (zs.map PyData.str) → xs = zs.map V.str
  | [], _, h => by cases h; rfl
  | z :: zs, _, h => by
    cases h with
    | cons r t =>
      cases r
      rw [fz_strs t]
      rfl
def tyStrD : W → MH → Prop := fun w _ => ∃ z, w = .d (.str z)
/-- sep.join(texts) -/
def rJoinD : RMd := fun w us M Q => match w, us with
  | .d (.str a), [u] => seqQ u M fun ds _ => ∃ ys : List Str, ds = ys.map PyData.str ∧ (ys.map (·.length)).sum + ys.length * a.length ≤ 16777216 ∧ Q (.d (.str (Txt.join a ys))) M
  | _, _ => False
theorem m_join : MetD Y "str" "str.join" "join" tyStrD rJoinD := by
  refine ⟨_, PySem.F.plainAttrs_str, PySem.F.slot_str_join, PySem.F.type_str_join, mt_join, fun S r h => ?_, ?_⟩
  · obtain ⟨z, rfl⟩ := h
    cases r
    rfl
  · intro s H σ M x w vs ws Q R S r rs q k
    unfold rJoinD at q
    split at q
    · obtain ⟨v, rfl, rv⟩ := rs.one
      cases r
      obtain ⟨t, a, xs, ds, kc, rfl, h1, ⟨ys, rfl, hz, q⟩, f1⟩ := seqQ_here S.d rv q
      have e := fz_strs f1
      subst e
      refine ⟨_, a, ys, rfl, rfl, ?_, hz, k _ _ (S.here (w := .d (.str _)) (Fz.str _) q)⟩
      cases t with
      | true => exact .inr h1
      | false => exact .inl h1
    · exact q.elim
/-- x.split(sep), a list of texts -/
def rSplitD : RMd := fun w us M Q => match w, us with
  | .d (.str a), [.d (.str b)] => (b.length == 0) = false ∧ a.length + 2 ≤ sizeLine ∧ Q (.d (.list ((Txt.split a b).map PyData.str))) M
  | _, _ => False
theorem fz_of_strs {K : PySem.W.Frag} {H : Hp} {M : MH} : ∀ zs : List Str, FzA K H M (zs.map V.str) (zs.map PyData.str)
  | [] => .nil
  | z :: zs => .cons (Fz.str z) (fz_of_strs zs)
theorem m_split : MetD Y "str" "str.split" "split" tyStrD rSplitD := by
  refine ⟨_, PySem.F.plainAttrs_str, PySem.F.slot_str_split, PySem.F.type_str_split, mt_split, fun S r h => ?_, ?_⟩
  · obtain ⟨z, rfl⟩ := h
    cases r
    rfl
  · intro s H σ M x w vs ws Q R S r rs q k
    unfold rSplitD at q
    split at q
    · obtain ⟨h1, h2, q⟩ := q
      obtain ⟨v, rfl, rv⟩ := rs.one
      cases r
      cases rv
      exact ⟨_, _, rfl, rfl, h1, h2, fun p n => k _ _ (up_lst S n (fz_of_strs _) q)⟩
    · exact q.elim
end
/-! ### defs of classes, as the text leaves them -/
structure PlM (g : Gc) (C : Addr) (m q : Str) (st : Stmt) : Prop where
  ex : ∃ f fd, Fun g.K m q st f fd ∧ Meth g.K C m f
theorem dfm_of {g : Gc} {i : Si} {k : Nat} {C : Addr} {m q : Str} {st : Stmt} {ps : List Str} {sp : SpD} (P : PlM g C m q st) (hsy : SysOk g.base) (Sc : FnScope i.N ps (defScope st)) (ok : ScOk i (defScope st))
    (hb : ∀ (kV doc pm : Value) (an : Option Addr) (cdv ct : Value) (us : List Value), us.length = ps.length → bindArgs (PySem.W.fnOf m q (defArgs st) (defBody st) (defScope st) .none kV doc pm an cdv ct) ⟨us, []⟩ = pure (ps.zip us))
    (len : ∀ ws M Q E, sp ws M Q E → ws.length = ps.length)
    (body : ∀ (Y : Dx) (ws : List W) (M : MH) (Q : W → MH → Prop) (E : XD), Fm g i k Y → Y.wd = (fun cls fs _ M' => E cls fs M') → sp ws M Q E → ∃ t, QSs Y (defBody st) t ∧ t { nx := fun _ M' => Q (.d .none) M', rt := Q } (startD i.N ws) M) : DfM g (k + 1) C m ps sp i.hot := by
  obtain ⟨f, fd, F, h⟩ := P.ex
  exact ⟨f, fd, fng_of F Sc ok hsy len body, h, F.binds hb⟩
structure PlI (g : Gc) (x q : Str) (st : Stmt) : Prop where
  ex : ∃ f fd, Fun g.K "__init__" q st f fd ∧ L2.Mk g.K (clsA g x) f ∧ g.mg x = some (.ref (clsA g x))
theorem mkm_of {g : Gc} {i : Si} {k : Nat} {x q : Str} {st : Stmt} {ps : List Str} {sp : SpD} (P : PlI g x q st) (hsy : SysOk g.base) (Sc : FnScope i.N ps (defScope st)) (ok : ScOk i (defScope st))
    (hb : ∀ (kV doc pm : Value) (an : Option Addr) (cdv ct : Value) (us : List Value), us.length = ps.length → bindArgs (PySem.W.fnOf "__init__" q (defArgs st) (defBody st) (defScope st) .none kV doc pm an cdv ct) ⟨us, []⟩ = pure (ps.zip us))
    (len : ∀ ws M Q E, sp ws M Q E → ws.length = ps.length)
    (body : ∀ (Y : Dx) (ws : List W) (M : MH) (Q : W → MH → Prop) (E : XD), Fm g i k Y → Y.wd = (fun cls fs _ M' => E cls fs M') → sp ws M Q E → ∃ t, QSs Y (defBody st) t ∧ t { nx := fun _ M' => Q (.d .none) M', rt := Q } (startD i.N ws) M) : MkM g (k + 1) x ps sp i.hot := by
  obtain ⟨f, fd, F, h1, h2⟩ := P.ex
  exact ⟨f, fd, h1, fng_of F Sc ok hsy len body, h2, F.binds hb⟩
end Dl
set_option Elab.async false
set_option linter.all false
set_option maxRecDepth 100000
/-! written dicts with texts for keys: d[k], d.get(k) -/
namespace Dl
open PySem PySem.Spec PyProof.Rows L2
structure KVal (g : Gc) (x : Str) (d : Addr) (kvs : List (Str × PyData)) : Prop where
  m : g.mg x = some (.ref d)
  k : ∃ es n, g.K.lookup d = some ⟨.type "dict", none, .dict es n, #[]⟩ ∧ PySem.W.KeysLit g.w.params es.toList ∧ (d == sysModules) = false
  there : ∀ z dv, kvs.lookup z = some dv → ∃ u v, PySem.W.nsIn g.K d z = some (some u) ∧ RelV v u ∧ ∀ H M, Fz g.K H M v dv
  not : ∀ z, kvs.lookup z = none → PySem.W.nsIn g.K d z = some none
section
variable {g : Gc} {i : Si} {k : Nat} {Y : Dx}
def tKget (kvs : List (Str × PyData)) (te : TEd) : TEd := fun σ M Q => te σ M fun w M1 => match w with
  | .d (.str z) => Q (.d ((kvs.lookup z).getD .none)) M1
  | _ => False
theorem q_kget (F : Fm g i k Y) (j : Nat) {x : Str} {d : Addr} {kvs : List (Str × PyData)} {e : Expr} {te : TEd} {px apos cpos : Pos} (C : KVal g x d kvs) (he : QE Y e te) (hj : i.gls[j]? = some x := by rfl)
    (hbase : attributeBase (.Name x px) "get" Y.X.env (eval (.Name x px) Y.X.env) = eval (.Name x px) Y.X.env := by rfl)
    (hfew : ((backTo cpos (starEach [e] Y.X.env)).all (fun x => !x.1) && (backToKw cpos (keywordEach [] Y.X.env)).all (fun x => x.1.isSome) && decide (([e] : List Expr).length + ([] : List Keyword).length + (if ([] : List Keyword).isEmpty then 0 else 1) < 30)) = true := by rfl)
    (hline : (apos.endLine == cpos.line) = true := by rfl) (htr : backTo cpos (starEach [e] Y.X.env) = [(false, eval e Y.X.env)] := by rfl) :
    QE Y (.Call (.Attribute (.Name x px) "get" apos) [e] [] cpos) (tKget kvs te) := by
  obtain ⟨h1, h2, h3⟩ := F.glo j x hj
  obtain ⟨es, n, hl, hk, low⟩ := C.k
  refine ⟨fun s H σ M Q S h pins sh I => ?_⟩
  have hl' : Y.X.K.lookup d = some ⟨.type "dict", none, .dict es n, #[]⟩ := by rw [F.hK]; exact hl
  have hk' : PySem.W.KeysLit Y.X.w.params es.toList := by rw [F.hw]; exact hk
  refine wpAny_Call_method hbase hfew hline PySem.F.plainAttrs_dict PySem.F.slot_dict_get PySem.F.type_dict_get (ld_glob I h1 (by rw [F.hmg]; exact C.m) ?_ h2)
  have hm := PySem.W.mapOf_K (prog := Y.X.prog) (w := Y.X.w) I.kIn hl' hk'
  refine ⟨hm.typeIs, fun b q => ?_, ?_⟩
  · cases q
    exact ⟨_, I.kIn _ _ hl', rfl⟩
  rw [htr]
  refine Calls.callWith_builtin rfl (Calls.evalArgs_plain (Calls.spliced_cons (thn (he.run s H σ M _ S h pins sh I) fun u s1 ⟨v, H1, I1, rv, w, M1, e1, d1, r1, q1⟩ => Calls.spliced_nil ?_)))
  dsimp only at q1
  split at q1
  · rename_i z
    cases r1
    obtain ⟨t, rfl⟩ := (show ∃ t, u = Value.str z t from rv)
    have hm1 := PySem.W.mapOf_K (prog := Y.X.prog) (w := Y.X.w) I1.kIn hl' hk'
    have hu := F.room.un
    refine call_meetsIn PySem.F.slot_dict_get hm1.typeIs PySem.F.entry_dict_get (PySem.F.args_dict_get_2 _ _) (meets_dict_get (strKind Y.X.prog Y.X.w) d (strKind_is Y.X.prog Y.X.w z t) low) ⟨_, hm1, ?_⟩
    have S1 := S.go e1 d1
    have hK : Y.X.K = g.K := F.hK
    cases e : kvs.lookup z with
    | some dv =>
      obtain ⟨u', v', n1, r1, fz⟩ := C.there z dv e
      rw [PySem.W.find_K hl' (by rw [hK]; exact n1)]
      rw [e] at q1
      exact ⟨v', H1, I1.tok _, r1, (S1.here (w := .d dv) (by rw [hK]; exact fz _ _) q1).trans e1⟩
    | none =>
      rw [PySem.W.find_K hl' (by rw [hK]; exact C.not z e)]
      rw [e] at q1
      exact ⟨.non, H1, I1.tok _, rfl, (S1.here (w := .d .none) Fz.non q1).trans e1⟩
  · exact q1.elim
def tKix (kvs : List (Str × PyData)) (te : TEd) : TEd := fun σ M Q => te σ M fun w M1 => ∃ z dv, w = .d (.str z) ∧ kvs.lookup z = some dv ∧ Q (.d dv) M1
theorem q_kix (F : Fm g i k Y) (j : Nat) {x : Str} {d : Addr} {kvs : List (Str × PyData)} {e : Expr} {te : TEd} {px pos : Pos} (C : KVal g x d kvs) (he : QE Y e te) (hj : i.gls[j]? = some x := by rfl) (hs : PlainIx e := by intro _ _; rfl) :
    QE Y (.Subscript (.Name x px) e pos) (tKix kvs te) := by
  obtain ⟨h1, h2, h3⟩ := F.glo j x hj
  obtain ⟨es, n, hl, hk, low⟩ := C.k
  refine ⟨fun s H σ M Q S h => semE_of (pe_ix ix_kdict (pe_glob (v := .ref d) (u := .ref d) h1 (by rw [F.hmg]; exact C.m) rfl h2) pe_sem hs) ?_⟩
  refine he.then_ S h fun v H1 w M1 e1 d1 r1 q => ?_
  obtain ⟨z, dv, rfl, hz, q⟩ := q
  obtain ⟨u', v', n1, rv, fz⟩ := C.there z dv hz
  cases r1
  have S1 := S.go e1 d1
  exact ⟨d, z, v', rfl, rfl, ⟨es, n, u', by rw [F.hK]; exact hl, by rw [F.hw]; exact hk, by rw [F.hK]; exact n1, rv⟩, (S1.here (w := .d dv) (by rw [F.hK]; exact fz _ _) q).trans e1⟩
end
/-! ### a written dict, looked at -/
def chkKV (K : PySem.W.Frag) : List DictEntry → List (Str × PyData) → Bool
  | [], [] => true
  | e :: r, (k, dv) :: ks => (match e.key with | .str x _ => x == k | _ => false) && chkD K 60 e.val dv && chkKV K r ks
  | _, _ => false
theorem chkKV_ok {K : PySem.W.Frag} (z : Str) : ∀ (l : List DictEntry) (ks : List (Str × PyData)), chkKV K l ks = true → l.any (·.refKey) = false ∧ (∀ dv, ks.lookup z = some dv → ∃ e, l.find? (·.key.isStr z) = some e ∧ chkD K 60 e.val dv = true) ∧ (ks.lookup z = none → l.find? (·.key.isStr z) = none)
  | [], [], _ => by
    refine ⟨rfl, fun dv e => ?_, fun _ => rfl⟩
    cases e
  | e :: r, [], h => by simp [chkKV] at h
  | [], k :: ks, h => by simp [chkKV] at h
  | e :: r, (k, dv) :: ks, h => by
    simp only [chkKV, Bool.and_eq_true] at h
    obtain ⟨h1, h2, h3⟩ := chkKV_ok z r ks h.2
    obtain ⟨hh, key, val⟩ := e
    cases key with
    | str x t =>
      have hx : x = k := eq_of_beq h.1.1
      subst hx
      have e1 : (Value.str x t).isStr z = (x == z) := rfl
      refine ⟨by rw [List.any_cons, h1]; rfl, ?_, ?_⟩
      · intro dv' hl
        rw [List.lookup_cons] at hl
        rw [List.find?_cons]
        simp only [e1]
        by_cases q : x = z
        · subst q
          simp only [beq_self_eq_true] at hl ⊢
          cases hl
          exact ⟨_, rfl, h.1.2⟩
        · have q1 : (x == z) = false := beq_eq_false_iff_ne.mpr q
          have q2 : (z == x) = false := beq_eq_false_iff_ne.mpr fun w => q w.symm
          rw [q2] at hl
          rw [q1]
          exact h2 dv' hl
      · intro hl
        rw [List.lookup_cons] at hl
        rw [List.find?_cons]
        simp only [e1]
        by_cases q : x = z
        · subst q
          simp only [beq_self_eq_true] at hl
          cases hl
        · have q1 : (x == z) = false := beq_eq_false_iff_ne.mpr q
          have q2 : (z == x) = false := beq_eq_false_iff_ne.mpr fun w => q w.symm
          rw [q2] at hl
          rw [q1]
          exact h3 hl
    | _ => exact absurd h.1.1 (by simp)
theorem kval_of {g : Gc} {x : Str} {d : Addr} {es : Array DictEntry} {n : Nat} {kvs : List (Str × PyData)} (m : g.mg x = some (.ref d)) (at_ : g.K.lookup d = some ⟨.type "dict", none, .dict es n, #[]⟩) (lit : PySem.W.KeysLit g.w.params es.toList) (low : (d == sysModules) = false) (c : chkKV g.K es.toList kvs = true) : KVal g x d kvs := by
  refine ⟨m, ⟨es, n, at_, lit, low⟩, fun z dv hz => ?_, fun z hz => ?_⟩
  · obtain ⟨_, h2, _⟩ := chkKV_ok z es.toList kvs c
    obtain ⟨e, he, hc⟩ := h2 dv hz
    obtain ⟨v, r, fz⟩ := chkD_ok g.K 60 e.val dv hc
    refine ⟨e.val, v, ?_, r, fz⟩
    unfold PySem.W.nsIn
    rw [at_]
    simp only
    rw [he]
  · obtain ⟨h1, _, h3⟩ := chkKV_ok z es.toList kvs c
    unfold PySem.W.nsIn
    rw [at_]
    simp only
    rw [h3 hz, if_neg (by rw [h1]; exact Bool.false_ne_true)]
end Dl
set_option Elab.async false
set_option linter.all false
set_option maxRecDepth 100000
/-! dicts with keys of texts, that change: d[k], k in d, d[k] = v, {} -/
namespace Dl
open PySem PySem.Spec PyProof.Rows L2
def skv (l : List (Str × W)) : List (Key × W) := l.map fun q => (.inr q.1, q.2)
def sHas {α : Type} (l : List (Str × α)) (z : Str) : Bool := (l.lookup z).isSome
def sPut {α : Type} (l : List (Str × α)) (z : Str) (w : α) : List (Str × α) := if sHas l z = true then l.map (fun q => if q.1 = z then (q.1, w) else q) else l ++ [(z, w)]
theorem sPut_len {α : Type} (l : List (Str × α)) (z : Str) (w : α) : (sPut l z w).length ≤ l.length + 1 := by
  unfold sPut
  split
  · rw [List.length_map]; omega
  · simp
theorem sPut_map {α β : Type} (f : α → β) (l : List (Str × α)) (z : Str) (w : α) : sPut (l.map fun q => (q.1, f q.2)) z (f w) = (sPut l z w).map fun q => (q.1, f q.2) := by
  have e : sHas (l.map fun q => (q.1, f q.2)) z = sHas l z := by
    unfold sHas
    induction l with
    | nil => rfl
    | cons q r ih =>
      obtain ⟨k, x⟩ := q
      rw [List.map_cons, List.lookup_cons, List.lookup_cons]
      cases z == k
      · exact ih
      · rfl
  unfold sPut
  rw [e]
  split
  · rw [List.map_map, List.map_map]
    apply List.map_congr_left
    intro q _
    simp only [Function.comp]
    split <;> rfl
  · simp
theorem lookup_map {α β : Type} (f : α → β) (l : List (Str × α)) (z : Str) : (l.map fun q => (q.1, f q.2)).lookup z = (l.lookup z).map f := by
  induction l with
  | nil => rfl
  | cons q r ih =>
    obtain ⟨k, x⟩ := q
    rw [List.map_cons, List.lookup_cons, List.lookup_cons]
    cases z == k
    · exact ih
    · rfl
theorem sHas_map {α β : Type} (f : α → β) (l : List (Str × α)) (z : Str) : sHas (l.map fun q => (q.1, f q.2)) z = sHas l z := by
  unfold sHas
  rw [lookup_map, Option.isSome_map]
section
variable {K : PySem.W.Frag} {H : Hp} {M : MH}
theorem skv_at {z : Str} : ∀ {l : List (Str × W)} {vs : List (Key × V)}, WvK K H M vs (skv l) → (valV vs (.inr z) = none ∧ l.lookup z = none) ∨ ∃ v w, valV vs (.inr z) = some v ∧ l.lookup z = some w ∧ Wv K H M v w
  | [], vs, h => by cases h; exact .inl ⟨rfl, rfl⟩
  | (k, w) :: l, vs, h => by
    cases h with
    | @cons p _ vs _ r t =>
      obtain ⟨r1, r2⟩ := r
      rw [List.lookup_cons]
      by_cases e : z = k
      · subst e
        rw [valV_pos (k := (Sum.inr z : Key)) r1, beq_self_eq_true]
        exact .inr ⟨_, _, rfl, rfl, r2⟩
      · rw [valV_neg (k := (Sum.inr z : Key)) (fun q => e (by rw [r1] at q; exact (Sum.inr.inj q).symm)), beq_eq_false_iff_ne.mpr e]
        exact skv_at t
theorem skv_map {z : Str} {v : V} {w : W} (h : Wv K H M v w) : ∀ {l : List (Str × W)} {vs : List (Key × V)}, WvK K H M vs (skv l) → WvK K H M (vs.map fun kv => if kv.1 = .inr z then (kv.1, v) else kv) (skv (l.map fun q => if q.1 = z then (q.1, w) else q))
  | [], vs, h => by cases h; exact .nil
  | (k, w') :: l, vs, h' => by
    cases h' with
    | @cons p _ vs _ r t =>
      obtain ⟨r1, r2⟩ := r
      refine .cons ?_ (skv_map h t)
      dsimp only at r1 r2 ⊢
      by_cases e : k = z
      · rw [if_pos e, if_pos (by rw [r1, e])]
        exact ⟨r1, h⟩
      · rw [if_neg e, if_neg (fun q => e (by rw [r1] at q; exact Sum.inr.inj q))]
        exact ⟨r1, r2⟩
theorem skv_snoc {z : Str} {v : V} {w : W} (h : Wv K H M v w) : ∀ {l : List (Str × W)} {vs : List (Key × V)}, WvK K H M vs (skv l) → WvK K H M (vs ++ [(.inr z, v)]) (skv (l ++ [(z, w)]))
  | [], vs, h' => by cases h'; exact .cons ⟨rfl, h⟩ .nil
  | q :: l, vs, h' => by
    cases h' with
    | cons r t => exact .cons r (skv_snoc h t)
theorem skv_put {z : Str} {v : V} {w : W} (h : Wv K H M v w) {l : List (Str × W)} {vs : List (Key × V)} (h' : WvK K H M vs (skv l)) : WvK K H M (putK vs (.inr z) v) (skv (sPut l z w)) := by
  have e : (vs.any fun kv => decide (kv.1 = .inr z)) = sHas l z := by
    rw [valV_any]
    unfold sHas
    rcases skv_at (z := z) h' with ⟨e1, e2⟩ | ⟨_, _, e1, e2, _⟩ <;> rw [e1, e2] <;> rfl
  unfold putK sPut
  rw [e]
  split
  · exact skv_map h h'
  · exact skv_snoc h h'
end
section
variable {g : Gc} {i : Si} {k : Nat} {Y : Dx}
theorem dk_at {H : Hp} {M : MH} {a : Addr} {l : List (Str × W)} (D : Dok Y.X.K H M) (hm : M a = some (.dK (skv l))) (z : Str) : ∃ vs, H a = some (.dK vs) ∧ WvK Y.X.K H M vs (skv l) ∧ vs.length = l.length := by
  obtain ⟨vs, h1, h2⟩ := D a _ hm
  refine ⟨vs, h1, h2, ?_⟩
  rw [Paired.length h2]
  unfold skv
  rw [List.length_map]
/-- d[k] -/
def tSGet (to ti : TEd) : TEd := fun σ M Q => to σ M fun o M1 => ti σ M1 fun x M2 => match o, x with
  | .ref p, .d (.str z) => ∃ l u, M2 p = some (.dK (skv l)) ∧ l.lookup z = some u ∧ Q u M2
  | _, _ => False
theorem q_sget (F : Fm g i k Y) {a b : Expr} {ta tb : TEd} {pos : Pos} (ha : QE Y a ta) (hb : QE Y b tb) (hs : NoSl b := by intro _ _; rfl) : QE Y (.Subscript a b pos) (tSGet ta tb) := by
  refine ⟨fun s H σ M Q S h => semE_of (pe_dget (by have := F.room.un; omega) pe_sem pe_sem hs) (ha.then_ S h fun v1 H1 w1 M1 e1 d1 rw1 q => ?_)⟩
  have S1 := S.go e1 d1
  refine hb.then_ S1 q fun v2 H2 w2 M2 e2 d2 rw2 q2 => ?_

  split at q2
  · rename_i p z
    obtain ⟨l, u, hm, hl, q3⟩ := q2
    obtain rfl := (show v1 = _ from rw1)
    obtain rfl := rw2.str
    obtain ⟨vs, h1, h2, _⟩ := dk_at d2 hm z
    rcases skv_at (z := z) h2 with ⟨_, z2⟩ | ⟨v, w, z1, z2, z3⟩
    · rw [z2] at hl; cases hl
    · rw [z2] at hl
      cases hl
      exact ⟨p, v, rfl, .inl ⟨vs, .inr z, .inl h1, rfl, z1.symm⟩, ((S1.go e2 d2).here z3 q3).trans (e1.trans e2)⟩
  · exact q2.elim
/-- k in d, k not in d -/
def rSin (neg : Bool) : R2d := fun x o M Q => match x, o with
  | .d (.str z), .ref p => ∃ l, M p = some (.dK (skv l)) ∧ Q (.d (.bool (if neg then !sHas l z else sHas l z))) M
  | _, _ => False
theorem o_sin (F : Fm g i k Y) : Op2 Y (compareOp .In) (rSin false) := by
  intro s H σ M x y a b Q S rx ry q
  unfold rSin at q
  split at q
  · intro pins sh s' v u I r1 r2
    rename_i z p
    obtain ⟨l, hm, q3⟩ := q
    obtain rfl := (show y = _ from ry)
    obtain rfl := rx.str
    cases r2
    obtain ⟨vs, h1, h2, _⟩ := dk_at S.d hm z
    refine d_in (y := .str z) (by have := F.room.un; omega) I (.inl ⟨vs, .inr z, .inl h1, rfl, rfl⟩) r1 fun s3 I3 => ⟨.bl _, H, I3, rfl, S.here (wBool _) ?_⟩
    unfold sHas at q3
    rcases skv_at (z := z) h2 with ⟨z1, z2⟩ | ⟨v, w, z1, z2, z3⟩ <;> (rw [z1]; rw [z2] at q3; exact q3)
  · exact q.elim
theorem o_snotin (F : Fm g i k Y) : Op2 Y (compareOp .NotIn) (rSin true) := by
  intro s H σ M x y a b Q S rx ry q
  unfold rSin at q
  split at q
  · intro pins sh s' v u I r1 r2
    rename_i z p
    obtain ⟨l, hm, q3⟩ := q
    obtain rfl := (show y = _ from ry)
    obtain rfl := rx.str
    cases r2
    obtain ⟨vs, h1, h2, _⟩ := dk_at S.d hm z
    refine d_notIn (y := .str z) (by have := F.room.un; omega) I (.inl ⟨vs, .inr z, .inl h1, rfl, rfl⟩) r1 fun s3 I3 => ⟨.bl _, H, I3, rfl, S.here (wBool _) ?_⟩
    unfold sHas at q3
    rcases skv_at (z := z) h2 with ⟨z1, z2⟩ | ⟨v, w, z1, z2, z3⟩ <;> (rw [z1]; rw [z2] at q3; exact q3)
  · exact q.elim
/-- d[k] = v -/
def gSPut (to ti : TEd) : TGd := fun v σ M Q => to σ M fun o M1 => ti σ M1 fun x M2 => match o, x with
  | .ref p, .d (.str z) => ∃ l, M2 p = some (.dK (skv l)) ∧ l.length < sizeLine ∧ Q σ (mset M2 p (.dK (skv (sPut l z v))))
  | _, _ => False
theorem g_sput (F : Fm g i k Y) {o j : Expr} {to ti : TEd} {pos : Pos} (ho : QE Y o to) (hi : QE Y j ti)
    (ha : ∀ v, assign (.Subscript o j pos) Y.X.env v = (do
      let ov ← holding [v] (eval o Y.X.env)
      let iv ← holding [v, ov] (eval j Y.X.env)
      standAt pos
      holding [v, ov, iv] (setItem ov iv v)
      release [v, ov, iv] []) := by intro _; rfl) : QG Y (.Subscript o j pos) (gSPut to ti) := by
  refine ⟨fun s H σ M v w Q S r h => semG_of (pg_sub pe_sem pe_sem set_sem ha) (ho.then_ S h fun vo H1 wo M1 e d r1 q => hi.then_ (S.go e d) q fun vi H2 wi M2 e2 d2 r2 q2 => ?_)⟩
  have rv := r.ext (e.trans e2)
  split at q2
  · rename_i p z
    obtain ⟨l, hm, hz, q3⟩ := q2
    intro pins sh s' ov iv u I ro ri ru
    obtain rfl := (show vo = _ from r1)
    obtain rfl := r2.str
    cases ro
    obtain ⟨vs, h1, h2, hl⟩ := dk_at d2 hm z
    have nn : M2 p ≠ none := by rw [hm]; exact fun z => by cases z
    have X1 : Ext H2 M2 (upd H2 p (.dK (putK vs (.inr z) v))) (mset M2 p (.dK (skv (sPut l z w)))) := ext_mut (.inl nn)
    have D1 := dok_mut (u := .dK (skv (sPut l z w))) (o := .dK (putK vs (.inr z) v)) d2 (.inl nn) fun e => ⟨_, upd_same, WvK.ext e (skv_put rv h2)⟩
    refine d_setItem (by have := F.room.un; omega) I (DPut.k (k := (Sum.inr z : Key)) h1 (by omega)) ri ru fun s4 I4 => ?_
    exact ⟨_, I4, σ, _, (e.trans e2).trans X1, S.go ((e.trans e2).trans X1) D1, q3⟩
  · exact q2.elim
/-- {} -/
def tSNew : TEd := fun _ M Q => ∀ p, M p = none → Q (.ref p) (mset M p (.dK (skv [])))
theorem q_snew (F : Fm g i k Y) {pos : Pos} : QE Y (.Dict [] [] pos) tSNew := by
  refine ⟨fun s H σ M Q S h => semE_of pe_dnewK fun p n => ?_⟩
  have X1 : Ext H M (upd H p (.dK [])) (mset M p (.dK (skv []))) := ext_mut (.inr n)
  exact ⟨.ref p, _, X1, dok_mut (u := .dK (skv [])) S.d (.inr n) fun _ => ⟨[], upd_same, .nil⟩, rfl, h p (S.d.free n)⟩
/-- str(x) of a number or a text -/
def rStrX : RCd := fun ws M Q => match ws with
  | [.d (.int n)] => n.natAbs.log2 < 1920 ∧ Q (.d (.str (toString n))) M
  | [.d (.str z)] => Q (.d (.str z)) M
  | _ => False
theorem c_strX : OpC Y (.type "str") rStrX := by
  intro s H σ M xs ws Q S rx q
  unfold rStrX at q
  split at q
  · obtain ⟨v, rfl, r⟩ := rx.one
    exact semC_of call_str_int ⟨_, by rw [r.int], q.1, S.here (wStr _) q.2⟩
  · obtain ⟨v, rfl, r⟩ := rx.one
    exact semC_of SkE.call_str_str ⟨_, by rw [r.str], S.here (wStr _) q⟩
  · exact q.elim
end
end Dl
set_option Elab.async false
set_option linter.all false
set_option maxRecDepth 100000
set_option maxHeartbeats 4000000
/-! len(set(t)), t a tuple of texts -/
namespace Ds
open PySem PySem.Spec PyProof.Rows
/-- the texts met, each once -/
def met (l : List Str) : List Str := l.foldl step_dedup []
theorem met_snoc (l : List Str) (x : Str) : met (l ++ [x]) = step_dedup (met l) x := by unfold met; rw [List.foldl_append]; rfl
theorem met_len_le (l : List Str) : (met l).length ≤ l.length := foldl_step_dedup_nil_length_le l
theorem once_any (σ : List Str) (v k : Str) : (step_dedup σ v).any (· == k) = (σ.any (· == k) || decide (k = v)) := by
  unfold step_dedup
  split
  · rename_i h
    by_cases e : k = v
    · subst e
      rw [h, Bool.true_or]
    · rw [decide_eq_false e, Bool.or_false]
  · rw [List.any_append]
    congr 1
    by_cases e : k = v
    · subst e
      simp
    · have : (v == k) = false := beq_eq_false_iff_ne.mpr fun z => e z.symm
      simp [this, e]
theorem once_len (σ : List Str) (v : Str) : (step_dedup σ v).length = if σ.any (· == v) then σ.length else σ.length + 1 := by
  unfold step_dedup
  split
  · rfl
  · rw [List.length_append]; rfl
theorem take_snoc {l : List Str} {i : Nat} (h : i < l.length) : l.take (i + 1) = l.take i ++ [l.getD i Str.empty] := by
  rw [List.take_succ, List.getD_eq_getElem?_getD, List.getElem?_eq_getElem h]
  rfl
section
variable {prog : Program} {w : World} {A : Around} {R : Result → Shared → Prop} {I : Addr} {fp wr : List Addr} {G : Array GenState → Array GenState → Prop} {n : Nat} {P : Nat → Value → Prop} {St : Nat → Shared → Prop}
/-- the set behind i texts -/
def Held (prog : Program) (w : World) (S : Addr) (l : List Str) (h : Heap) : Prop := h.SetOf (PySem.strKind prog w) S (fun k => (met l).any (· == k)) (met l).length
theorem Held.kept {S : Addr} {l : List Str} {h h' : Heap} (x : Held prog w S l h) (k : ∀ o, h.get? S = some o → h'.get? S = some o) : Held prog w S l h' := by
  obtain ⟨o, es, ep, t, ho, rest⟩ := x
  exact ⟨o, es, ep, t, k o ho, rest⟩
theorem rounds (Wk : WalksS prog w A.in1 I fp wr G n P St) (S : Addr) (out : S ∉ fp) (xs : List Str) (len : xs.length = n) (few : n + 1 < scanBound) (val : ∀ i v, P i v → ∃ t, v = .str (xs.getD i Str.empty) t) :
    ∀ (k i : Nat) (s : Shared), n - i = k → i ≤ n → St i s → Held prog w S (xs.take i) s.heap → (∀ s', Moved (S :: wr) G s s' → Held prog w S (xs.take n) s'.heap → R (.ok (.ret .none)) s') →
      codeAny (model prog w) A (.builtin "set.update.loop" ⟨[.ref S, .ref I], []⟩) R s := by
  have outW : S ∉ wr := fun z => out (Wk.sub _ z)
  have sub2 : ∀ b ∈ wr, b ∈ S :: wr := fun b z => List.mem_cons_of_mem _ z
  intro k
  induction k with
  | zero =>
    intro i s hk hi st hS fin
    obtain rfl : i = n := by omega
    refine codeAny_builtin PyProof.Rows.F.entry_set_update_loop ?_; rw [Around.under_plainId PyProof.Rows.F.plain_set_update_loop _]
    show wpAny _ A.in1 (pyNext (.ref I) >>= _) _ _ s
    refine wpAny_bind (Wk.done s _ _ st fun s2 mv => ?_)
    exact wpAny_pure (fin s2 (mv.mono sub2) (hS.kept fun o e => mv.heap S o outW e))
  | succ k ih =>
    intro i s hk hi st hS fin
    have lt : i < n := by omega
    refine codeAny_builtin PyProof.Rows.F.entry_set_update_loop ?_; rw [Around.under_plainId PyProof.Rows.F.plain_set_update_loop _]
    show wpAny _ A.in1 (pyNext (.ref I) >>= _) _ _ s
    refine wpAny_bind (Wk.item i s _ _ lt st fun v s2 pv st2 mv => ?_)
    obtain ⟨t, rfl⟩ := val i v pv
    have hS2 := hS.kept (h' := s2.heap) fun o e => mv.heap S o outW e
    show wpAny _ A.in1 (holding [Value.str (xs.getD i Str.empty) t] (setAdd S (.str (xs.getD i Str.empty) t)) >>= _) _ _ s2
    refine wpAny_bind (wpAny_holding ?_)
    unfold setAdd
    refine wpAny_holding (wpAny_bind ((PySem.strKind prog w).pyHash (k := xs.getD i Str.empty) (strKind_is _ _ _ _) ?_))
    have fits : (met (xs.take i)).length + 1 < scanBound := by
      have a := met_len_le (xs.take i)
      rw [List.length_take] at a
      omega
    refine wpAny_setAddHashed_of (knd := PySem.strKind prog w) (s := { s2 with toks := s2.toks + 1 }) (strKind_is _ _ _ _) rfl hS2 fits fun h' same hS3 => ?_
    have hS4 : Held prog w S (xs.take (i + 1)) h' := by
      unfold Held
      rw [take_snoc (by omega), met_snoc]
      exact SetOf_congr hS3 (fun k => (once_any _ _ k).symm) (once_len _ _).symm
    refine wpAny_pure ⟨plainId_quiet PyProof.Rows.F.plain_set_update_loop _, ih (i + 1) _ (by omega) lt (Wk.frame _ s2 _ _ st2 (Nat.le_succ _) fun b hb o e => ?_) hS4 fun s3 mv3 hS5 => fin s3 ?_ hS5⟩
    · rw [same.2 b fun z : b = S => out (z ▸ hb)]
      exact e
    · refine Moved.trans Wk.gtrans ((mv.mono sub2).then_heap (Nat.le_succ _) fun b o hb e => ?_) mv3
      rw [same.2 b fun z : b = S => hb (z ▸ List.mem_cons_self)]
      exact e
end
section
variable {prog : Program} {w : World} {A : Around} {E : Value → Shared → Prop} {s : Shared}
/-- set(t) -/
theorem made {l : Addr} {its : Array Value} {xs : List Str} {Q : Value → Shared → Prop} (cold : A.handled = none) (tl : s.heap.IsTuple l its) (are : StrsAre its.toList xs) (few : xs.length + 1 < scanBound)
    (go : ∀ (h' : Heap) (tk : Nat), Held prog w s.heap.objs.size xs h' → (∀ b o, b < s.heap.objs.size → s.heap.get? b = some o → h'.get? b = some o) → Q (.ref s.heap.objs.size) { s with heap := h', toks := tk }) :
    wpAny (model prog w) A (call (.type "set") [.ref l]) Q E s := by
  obtain ⟨c, tl', hmro⟩ := PySem.F.called_set.mro
  have hmade := PySem.F.called_set.made; have hsub := PySem.F.called_set.sub
  refine wpAny_call (codeAny_of_tree ?_); show wpAny _ _ (callAny (.type "set") _) _ _ _
  refine wpAny_pure ⟨Code.quiet_builtin _ (by decide +kernel), codeAny_builtin PySem.F.entry_type_call ?_⟩; rw [Around.under_plain (weight_type_call_type "set" [.ref l] []) rfl]
  have h1 := PySem.F.called_set.notType; have h2 := PySem.F.called_set.canCreate; have hct := PySem.F.typeCall_set_1 (.ref l)
  repeat (any_goals (first | assumption | wp_step))
  refine codeAny_mono (code_set_new_1 (.ref l) (E := E) (Q₁ := fun ob t1 => ∃ b : Bool, ob = .ref s.heap.objs.size ∧ t1 = { s with heap := s.heap.push { cls := .type "set", dict := none, data := .set #[] 0 (.fresh 0 0 b) } }) fun b => ⟨b, rfl, rfl⟩) fun r t1 hr => ?_
  cases r with
  | error e => exact hr
  | ok fl =>
    cases fl with
    | ret ob =>
      obtain ⟨b, rfl, rfl⟩ := hr
      have at0 : (s.heap.push { cls := .type "set", dict := none, data := .set #[] 0 (.fresh 0 0 b) }).get? s.heap.objs.size = some { cls := .type "set", dict := none, data := .set #[] 0 (.fresh 0 0 b) } := Heap.get?_push_size _ rfl
      have ty0 : Shared.TypeIs { s with heap := s.heap.push { cls := .type "set", dict := none, data := .set #[] 0 (.fresh 0 0 b) } } (.ref s.heap.objs.size) "set" := ⟨_, at0, rfl⟩
      have hli := PySem.F.called_set.init.lookup; have hbi := PySem.F.called_set.init.bind (.ref s.heap.objs.size)
      repeat (any_goals (first | assumption | wp_step))
      refine codeAny_mono (codeAny_call_builtin (R := wants (fun r t2 => r = .none ∧ ∃ h' tk, t2 = { s with heap := h', toks := tk } ∧ Held prog w s.heap.objs.size xs h' ∧ (∀ b o, b < s.heap.objs.size → s.heap.get? b = some o → h'.get? b = some o)) E) PySem.F.called_set.init.plain PySem.F.entry_set_init (check_set_init_1 ty0 ?_)) fun r2 t2 hr2 => ?_
      · obtain ⟨ol, hol, hcl, nl, hdl⟩ := tl
        obtain ⟨ocls, odict, odata, oslots⟩ := ol
        simp only at hcl hdl; subst hcl; subst hdl
        have hol' : (s.heap.push { cls := .type "set", dict := none, data := .set #[] 0 (.fresh 0 0 b) }).get? l = some { cls := .type "tuple", dict := odict, data := .seq its nl, slots := oslots } := Heap.get?_push_of_some _ hol
        have hsls := PySem.F.sub_tuple_set; have hslf := PySem.F.sub_tuple_frozenset
        have hne : (Value.type "tuple" == Value.type "dict") = false := by decide
        have hl1 : (s.heap.push { cls := .type "set", dict := none, data := .set #[] 0 (.fresh 0 0 b) }).IsTuple l its := ⟨_, hol', rfl, nl, rfl⟩
        unfold Builtin.«set.__init__» noKeywords Builtin.Frozenset.updateFrom; generalize hPI : pyIter = PI
        wp_walk
        subst hPI
        refine wpAny_pyIter_tuple hl1 (wpAny_bind (wpAny_runValue ?_))
        have below : l < s.heap.objs.size := Heap.lt_size hol
        have cold3 : A.in1.in1.in1.handled = none := by simp [cold]
        have apart : l ≠ (s.heap.push { cls := .type "set", dict := none, data := .set #[] 0 (.fresh 0 0 b) }).objs.size := by
          rw [Heap.size_push]; exact Nat.ne_of_lt (Nat.lt_succ_of_lt below)
        have outS : s.heap.objs.size ∉ [(s.heap.push { cls := .type "set", dict := none, data := .set #[] 0 (.fresh 0 0 b) }).objs.size, l] := by
          rw [Heap.size_push]; simp only [List.mem_cons, List.not_mem_nil, or_false, not_or]; exact ⟨Nat.ne_of_lt (Nat.lt_succ_self _), Nat.ne_of_gt below⟩
        have len : xs.length = its.size := by rw [← StrsAre.len_eq are, Array.length_toList]
        have val : ∀ (i : Nat) (v : Value), its[i]? = some v → ∃ t, v = .str (xs.getD i Str.empty) t := fun i v hv => SS.strs_at are i v (by rw [Array.getElem?_toList]; exact hv)
        refine rounds ((Walks.tuple cold3 _ l apart its).toS) s.heap.objs.size outS xs len (by rw [← len]; exact few) val (its.size - 0) 0 _ (by omega) (Nat.zero_le _) ⟨⟨_, Heap.get?_push_size _ rfl, rfl, rfl⟩, (hl1.push _)⟩ ?h0 ?h9
        case h0 =>
          have g0 : ((s.heap.push { cls := .type "set", dict := none, data := .set #[] 0 (.fresh 0 0 b) }).push { cls := .type "tuple_iterator", data := .fields #[.ref l, .int 0 0] }).get? s.heap.objs.size = some { cls := .type "set", dict := none, data := .set #[] 0 (.fresh 0 0 b) } := Heap.get?_push_of_some _ at0
          exact SetOf_congr ((setObjOf_fresh (knd := PySem.strKind prog w) b).setOf g0 (by unfold scanBound; omega)) (fun _ => rfl) rfl
        case h9 =>
          intro s3 mv hS3
          obtain ⟨h3, g3, d3, k3, o3⟩ := s3
          obtain rfl : g3 = s.gens := mv.gens
          obtain rfl : d3 = s.drawn := mv.drawn
          obtain rfl : o3 = s.os := mv.os
          show wpAny _ _ _ _ _ _
          refine wpAny_pure ?_; show wpAny _ _ (ret Value.none) _ _ _
          rw [← len, List.take_length] at hS3
          refine wpAny_pure ⟨rfl, h3, k3, rfl, hS3, fun b2 o hb e => mv.heap b2 o ?_ (Heap.get?_push_of_some _ (Heap.get?_push_of_some _ e))⟩
          rw [Heap.size_push]; simp only [List.mem_cons, List.not_mem_nil, or_false, not_or]; exact ⟨Nat.ne_of_lt hb, Nat.ne_of_lt (Nat.lt_succ_of_lt hb)⟩
      · cases r2 with
        | error e => exact hr2
        | ok f2 =>
          cases f2 with
          | ret r =>
            obtain ⟨rfl, h', tk, rfl, hS, hk⟩ := hr2
            repeat (any_goals (first | assumption | wp_step))
            exact go _ _ hS hk
          | _ => exact hr2.elim
    | _ => exact hr.elim
end
end Ds
namespace Dl
open PySem PySem.Spec PyProof.Rows L2
section
variable {g : Gc} {i : Si} {k : Nat} {Y : Dx}
def strsD : List PyData → Option (List Str)
  | [] => some []
  | .str z :: r => (strsD r).map (z :: ·)
  | _ => none
theorem strsD_eq : ∀ {ds : List PyData} {zs : List Str}, strsD ds = some zs → ds = zs.map PyData.str
  | [], _, h => by cases h; rfl
  | d :: r, zs, h => by
    cases d <;> try (simp [strsD] at h; done)
    rename_i z
    simp only [strsD] at h
    cases e : strsD r with
    | none => rw [e] at h; cases h
    | some ys =>
      rw [e] at h
      cases h
      rw [List.map_cons, ← strsD_eq e]
theorem strsD_map : ∀ zs : List Str, strsD (zs.map PyData.str) = some zs
  | [] => rfl
  | z :: zs => by show (strsD (zs.map PyData.str)).map (z :: ·) = _; rw [strsD_map zs]; rfl
theorem FzA.strs {K : PySem.W.Frag} {H : Hp} {M : MH} : ∀ {zs : List Str} {xs : List V}, FzA K H M xs (zs.map PyData.str) → xs = zs.map V.str
  | [], _, h => by cases h; rfl
  | z :: zs, _, h => by
    cases h with
    | cons r t =>
      cases r
      rw [FzA.strs t]
      rfl
/-- len(set(t)) -/
def tLenSetD (te : TEd) : TEd := fun σ M Q => te σ M fun w M1 => match w with
  | .d (.tuple ds) => match strsD ds with | some zs => zs.length ≤ 4000 ∧ Q (.d (.int (Ds.met zs).length)) M1 | none => False
  | _ => False
theorem lenset_get {w : W} {M : MH} {Q : W → MH → Prop} (h : match w with | .d (.tuple ds) => (match strsD ds with | some zs => zs.length ≤ 4000 ∧ Q (.d (.int (Ds.met zs).length)) M | none => False) | _ => False) :
    ∃ ds zs, w = .d (.tuple ds) ∧ strsD ds = some zs ∧ zs.length ≤ 4000 ∧ Q (.d (.int (Ds.met zs).length)) M := by
  split at h
  · split at h
    · rename_i zs hz
      exact ⟨_, zs, rfl, hz, h⟩
    · exact h.elim
  · exact h.elim
theorem q_lenset (F : Fm g i k Y) (j j2 : Nat) {a : Expr} {ta : TEd} {p p2 q pos : Pos} (hm : g.mg "len" = none) (hm2 : g.mg "set" = none) (ha : QE Y a ta) (hj : i.gls[j]? = some "len" := by rfl) (hj2 : i.gls[j2]? = some "set" := by rfl)
    (na : starEach [a] Y.X.env = (false, eval a Y.X.env) :: starEach [] Y.X.env := by rfl) (hc : i.hot = false := by rfl) : QE Y (.Call (.Name "len" p) [.Call (.Name "set" p2) [a] [] q] [] pos) (tLenSetD ta) := by
  refine ⟨fun s H σ M Q S h pins sh I => ?_⟩
  refine Call_ (ld_blt I (F.glo j _ hj).1 (by rw [F.hmg]; exact hm) boot_len (PyProof.Rows.callWith_builtin1 (PyProof.Rows.args_cons ?_ rfl) rfl rfl))
  refine Call_ (ld_blt I (F.glo j2 _ hj2).1 (by rw [F.hmg]; exact hm2) boot_set (PyProof.Rows.callWith_type1 (PyProof.Rows.args_cons (thn (ha.run _ _ _ _ _ S h pins sh I) fun v s1 ⟨x, H1, I1, r1, w1, M1, e1, d1, rw1, q1⟩ => PyProof.Rows.args_nil ?_) na) na rfl))
  obtain ⟨ds, zs, rfl, hz, few, q2⟩ := lenset_get q1
  obtain rfl := strsD_eq hz
  obtain ⟨p, xs, rfl, h1, h2⟩ := rw1.tup
  obtain rfl := h2.strs
  cases r1
  obtain ⟨its, rv, tp, _⟩ := I1.tuple h1.sq
  refine Ds.made (I1.ok.hd (F.calm hc)) tp (by simpa using strsAre_of rv) (by unfold scanBound; omega) fun h' tk hS hk => PyProof.Rows.args_nil ?_
  obtain ⟨o, es, ep, t, ho, hex, hd, _, _, _, hf, hn⟩ := hS
  have I2 : Inv Y.X pins s H1 { s1 with heap := h', toks := tk } := I1.kept fun b o e => hk b o (Heap.lt_size e) e
  have le := Ds.met_len_le zs
  exact call_len_set ho hex hd hf (by rw [hn]; omega) ⟨.int (Ds.met zs).length, H1, I2.tok _, ⟨_, by rw [hn]⟩, (S.go e1 d1).here (wInt _) q2 |>.trans e1⟩
end
end Dl
set_option Elab.async false
set_option linter.all false
set_option maxRecDepth 100000
namespace Ms
open PySem PySem.Spec PyProof.Rows L2 Dl
def topS (i : Nat) : Stmt := PySem.Challenge.pw_askround_k11_forms_written.main.body.getD i (.Pass ⟨0, 0, 0, 0⟩)
def metS (i k : Nat) : Stmt := match topS i with | .ClassDef _ _ _ body _ _ _ _ _ _ _ => body.getD k (.Pass ⟨0, 0, 0, 0⟩) | s => s
def k_MOST_NUMBER : PyData := .int (1000000)
def k_WORDS : PyData := .tuple [(.str "ask"), (.str "pick"), (.str "some"), (.str "count"), (.str "if"), (.str "else"), (.str "end"), (.str "part"), (.str "leave"), (.str "each"), (.str "hard"), (.str "soft"), (.str "is"), (.str "has"), (.str "from"), (.str "to"), (.str "not"), (.str "and"), (.str "or"), (.str "any"), (.str "every")]
def k_MOST_LETTERS : PyData := .int (8)
def k_LETTERS : PyData := .str "abcdefghijklmnopqrstuvwxyz"
def k_MOST_OPTIONS : PyData := .int (6)
def k_MOST_PARTS : PyData := .int (6)
def k_MOST_DEEP_conditions : PyData := .int (6)
def k_MOST_PIECES : PyData := .int (30)
def k_MOST_FOLK : PyData := .int (4)
def k_MOST_STEPS : PyData := .int (60)
def k_MOST_DEEP_trees : PyData := .int (5)
def kv_PIECES_trees : List (Str × PyData) := [("is", .str "pick"), ("has", .str "some"), ("from", .str "count"), ("to", .str "count")]
def kv_PARTS : List (Str × PyData) := [("ask", .int (3)), ("if", .int (4)), ("part", .int (3)), ("leave", .int (3)), ("each", .int (4)), ("hard", .int (2)), ("soft", .int (2))]
abbrev s_is_whole : Stmt := topS 11
def i_is_whole : Si := ⟨defScope s_is_whole, ["thing"], [0], [0], [], ["isinstance", "int", "bool"], false, false⟩
theorem sc_is_whole : FnScope i_is_whole.N ["thing"] (defScope s_is_whole) := ⟨rfl, rfl, rfl, by decide +kernel, rfl, by decide +kernel, by decide +kernel⟩
theorem ok_is_whole : ScOk i_is_whole (defScope s_is_whole) := ⟨rfl, by decide +kernel, by decide +kernel, by decide +kernel, by decide +kernel⟩
abbrev s_is_within : Stmt := topS 12
def i_is_within : Si := ⟨defScope s_is_within, ["thing", "low", "high"], [0, 1, 2], [0, 1, 2], [], ["is_whole"], false, false⟩
theorem sc_is_within : FnScope i_is_within.N ["thing", "low", "high"] (defScope s_is_within) := ⟨rfl, rfl, rfl, by decide +kernel, rfl, by decide +kernel, by decide +kernel⟩
theorem ok_is_within : ScOk i_is_within (defScope s_is_within) := ⟨rfl, by decide +kernel, by decide +kernel, by decide +kernel, by decide +kernel⟩
abbrev s_is_number : Stmt := topS 13
def i_is_number : Si := ⟨defScope s_is_number, ["thing"], [0], [0], [], ["is_within", "MOST_NUMBER"], false, false⟩
theorem sc_is_number : FnScope i_is_number.N ["thing"] (defScope s_is_number) := ⟨rfl, rfl, rfl, by decide +kernel, rfl, by decide +kernel, by decide +kernel⟩
theorem ok_is_number : ScOk i_is_number (defScope s_is_number) := ⟨rfl, by decide +kernel, by decide +kernel, by decide +kernel, by decide +kernel⟩
abbrev s_is_name : Stmt := topS 14
def i_is_name : Si := ⟨defScope s_is_name, ["thing", "sign"], [0], [0], [], ["all", "WORDS", "isinstance", "str", "MOST_LETTERS", "len"], false, false⟩
theorem sc_is_name : FnScope i_is_name.N ["thing"] (defScope s_is_name) := ⟨rfl, rfl, rfl, by decide +kernel, rfl, by decide +kernel, by decide +kernel⟩
theorem ok_is_name : ScOk i_is_name (defScope s_is_name) := ⟨rfl, by decide +kernel, by decide +kernel, by decide +kernel, by decide +kernel⟩
abbrev s_are_options : Stmt := topS 15
def i_are_options : Si := ⟨defScope s_are_options, ["thing", "option"], [0], [0], [], ["all", "isinstance", "tuple", "MOST_OPTIONS", "len", "set"], false, false⟩
theorem sc_are_options : FnScope i_are_options.N ["thing"] (defScope s_are_options) := ⟨rfl, rfl, rfl, by decide +kernel, rfl, by decide +kernel, by decide +kernel⟩
theorem ok_are_options : ScOk i_are_options (defScope s_are_options) := ⟨rfl, by decide +kernel, by decide +kernel, by decide +kernel, by decide +kernel⟩
abbrev s_is_count : Stmt := topS 16
def i_is_count : Si := ⟨defScope s_is_count, ["thing"], [0], [0], [], ["is_number", "len"], false, false⟩
theorem sc_is_count : FnScope i_is_count.N ["thing"] (defScope s_is_count) := ⟨rfl, rfl, rfl, by decide +kernel, rfl, by decide +kernel, by decide +kernel⟩
theorem ok_is_count : ScOk i_is_count (defScope s_is_count) := ⟨rfl, by decide +kernel, by decide +kernel, by decide +kernel, by decide +kernel⟩
abbrev s_is_kind : Stmt := topS 17
def i_is_kind : Si := ⟨defScope s_is_kind, ["thing"], [0], [0], [], ["is_count", "isinstance", "tuple", "str", "are_options", "len"], false, false⟩
theorem sc_is_kind : FnScope i_is_kind.N ["thing"] (defScope s_is_kind) := ⟨rfl, rfl, rfl, by decide +kernel, rfl, by decide +kernel, by decide +kernel⟩
theorem ok_is_kind : ScOk i_is_kind (defScope s_is_kind) := ⟨rfl, by decide +kernel, by decide +kernel, by decide +kernel, by decide +kernel⟩
abbrev s_need_kind : Stmt := topS 18
def i_need_kind : Si := ⟨defScope s_need_kind, ["thing"], [0], [0], [], ["is_kind", "NoKind"], false, false⟩
theorem sc_need_kind : FnScope i_need_kind.N ["thing"] (defScope s_need_kind) := ⟨rfl, rfl, rfl, by decide +kernel, rfl, by decide +kernel, by decide +kernel⟩
theorem ok_need_kind : ScOk i_need_kind (defScope s_need_kind) := ⟨rfl, by decide +kernel, by decide +kernel, by decide +kernel, by decide +kernel⟩
abbrev s_written : Stmt := topS 19
def i_written : Si := ⟨defScope s_written, ["kind"], [0], [0], [], ["str"], false, false⟩
theorem sc_written : FnScope i_written.N ["kind"] (defScope s_written) := ⟨rfl, rfl, rfl, by decide +kernel, rfl, by decide +kernel, by decide +kernel⟩
theorem ok_written : ScOk i_written (defScope s_written) := ⟨rfl, by decide +kernel, by decide +kernel, by decide +kernel, by decide +kernel⟩
abbrev s_kind_text : Stmt := topS 20
def i_kind_text : Si := ⟨defScope s_kind_text, ["kind"], [0], [0], [], ["need_kind", "written"], false, false⟩
theorem sc_kind_text : FnScope i_kind_text.N ["kind"] (defScope s_kind_text) := ⟨rfl, rfl, rfl, by decide +kernel, rfl, by decide +kernel, by decide +kernel⟩
theorem ok_kind_text : ScOk i_kind_text (defScope s_kind_text) := ⟨rfl, by decide +kernel, by decide +kernel, by decide +kernel, by decide +kernel⟩
abbrev s_is_piece : Stmt := topS 30
def i_is_piece : Si := ⟨defScope s_is_piece, ["thing"], [0], [0], [], ["is_number", "PIECES_conditions", "is_name", "len"], false, false⟩
theorem sc_is_piece : FnScope i_is_piece.N ["thing"] (defScope s_is_piece) := ⟨rfl, rfl, rfl, by decide +kernel, rfl, by decide +kernel, by decide +kernel⟩
theorem ok_is_piece : ScOk i_is_piece (defScope s_is_piece) := ⟨rfl, by decide +kernel, by decide +kernel, by decide +kernel, by decide +kernel⟩
abbrev s_pieces_of_parts : Stmt := topS 31
def i_pieces_of_parts : Si := ⟨defScope s_pieces_of_parts, ["parts", "deep", "within", "found", "part"], [0, 1, 2, 3], [0, 3], [1, 2], ["sum", "isinstance", "tuple", "MOST_PARTS", "len"], false, false⟩
theorem sc_pieces_of_parts : FnScope i_pieces_of_parts.N ["parts", "deep", "within"] (defScope s_pieces_of_parts) := ⟨rfl, rfl, rfl, by decide +kernel, rfl, by decide +kernel, by decide +kernel⟩
theorem ok_pieces_of_parts : ScOk i_pieces_of_parts (defScope s_pieces_of_parts) := ⟨rfl, by decide +kernel, by decide +kernel, by decide +kernel, by decide +kernel⟩
abbrev s_pieces_in : Stmt := topS 32
def i_pieces_in : Si := ⟨defScope s_pieces_in, ["thing", "deep", "within"], [0, 1, 2], [0, 1, 2], [], ["is_piece", "pieces_in", "pieces_of_parts", "is_name", "isinstance", "tuple", "str", "len"], false, false⟩
theorem sc_pieces_in : FnScope i_pieces_in.N ["thing", "deep", "within"] (defScope s_pieces_in) := ⟨rfl, rfl, rfl, by decide +kernel, rfl, by decide +kernel, by decide +kernel⟩
theorem ok_pieces_in : ScOk i_pieces_in (defScope s_pieces_in) := ⟨rfl, by decide +kernel, by decide +kernel, by decide +kernel, by decide +kernel⟩
abbrev s_is_condition : Stmt := topS 33
def i_is_condition : Si := ⟨defScope s_is_condition, ["thing", "found"], [0, 1], [0, 1], [], ["pieces_in", "MOST_DEEP_conditions", "MOST_PIECES"], false, false⟩
theorem sc_is_condition : FnScope i_is_condition.N ["thing"] (defScope s_is_condition) := ⟨rfl, rfl, rfl, by decide +kernel, rfl, by decide +kernel, by decide +kernel⟩
theorem ok_is_condition : ScOk i_is_condition (defScope s_is_condition) := ⟨rfl, by decide +kernel, by decide +kernel, by decide +kernel, by decide +kernel⟩
abbrev s_need_condition : Stmt := topS 34
def i_need_condition : Si := ⟨defScope s_need_condition, ["thing"], [0], [0], [], ["is_condition", "NoCondition"], false, false⟩
theorem sc_need_condition : FnScope i_need_condition.N ["thing"] (defScope s_need_condition) := ⟨rfl, rfl, rfl, by decide +kernel, rfl, by decide +kernel, by decide +kernel⟩
theorem ok_need_condition : ScOk i_need_condition (defScope s_need_condition) := ⟨rfl, by decide +kernel, by decide +kernel, by decide +kernel, by decide +kernel⟩
abbrev s_worded : Stmt := topS 35
def i_worded : Si := ⟨defScope s_worded, ["condition", "found", "part"], [0, 1, 2], [0, 1, 2], [], ["PIECES_conditions", "worded", "str"], false, false⟩
theorem sc_worded : FnScope i_worded.N ["condition"] (defScope s_worded) := ⟨rfl, rfl, rfl, by decide +kernel, rfl, by decide +kernel, by decide +kernel⟩
theorem ok_worded : ScOk i_worded (defScope s_worded) := ⟨rfl, by decide +kernel, by decide +kernel, by decide +kernel, by decide +kernel⟩
abbrev s_condition_text : Stmt := topS 36
def i_condition_text : Si := ⟨defScope s_condition_text, ["condition"], [0], [0], [], ["need_condition", "worded"], false, false⟩
theorem sc_condition_text : FnScope i_condition_text.N ["condition"] (defScope s_condition_text) := ⟨rfl, rfl, rfl, by decide +kernel, rfl, by decide +kernel, by decide +kernel⟩
theorem ok_condition_text : ScOk i_condition_text (defScope s_condition_text) := ⟨rfl, by decide +kernel, by decide +kernel, by decide +kernel, by decide +kernel⟩
abbrev s_Scope_init : Stmt := metS 43 0
def i_Scope_init : Si := ⟨defScope s_Scope_init, ["self"], [0], [0], [], [], false, false⟩
theorem sc_Scope_init : FnScope i_Scope_init.N ["self"] (defScope s_Scope_init) := ⟨rfl, rfl, rfl, by decide +kernel, rfl, by decide +kernel, by decide +kernel⟩
theorem ok_Scope_init : ScOk i_Scope_init (defScope s_Scope_init) := ⟨rfl, by decide +kernel, by decide +kernel, by decide +kernel, by decide +kernel⟩
abbrev s_Scope_own_round : Stmt := metS 43 1
def i_Scope_own_round : Si := ⟨defScope s_Scope_own_round, ["self", "word", "name"], [0], [0], [], [], false, false⟩
theorem sc_Scope_own_round : FnScope i_Scope_own_round.N ["self"] (defScope s_Scope_own_round) := ⟨rfl, rfl, rfl, by decide +kernel, rfl, by decide +kernel, by decide +kernel⟩
theorem ok_Scope_own_round : ScOk i_Scope_own_round (defScope s_Scope_own_round) := ⟨rfl, by decide +kernel, by decide +kernel, by decide +kernel, by decide +kernel⟩
abbrev s_Scope_is_new : Stmt := metS 43 2
def i_Scope_is_new : Si := ⟨defScope s_Scope_is_new, ["self", "name"], [0, 1], [0, 1], [], ["is_name"], false, false⟩
theorem sc_Scope_is_new : FnScope i_Scope_is_new.N ["self", "name"] (defScope s_Scope_is_new) := ⟨rfl, rfl, rfl, by decide +kernel, rfl, by decide +kernel, by decide +kernel⟩
theorem ok_Scope_is_new : ScOk i_Scope_is_new (defScope s_Scope_is_new) := ⟨rfl, by decide +kernel, by decide +kernel, by decide +kernel, by decide +kernel⟩
abbrev s_Scope_knows_piece : Stmt := metS 43 3
def i_Scope_knows_piece : Si := ⟨defScope s_Scope_knows_piece, ["self", "piece", "own", "word", "name", "wished", "kind", "of_round"], [0, 1, 2, 3, 4, 5, 6, 7], [0, 1, 2, 3, 4, 5, 6, 7], [], ["PIECES_trees"], false, false⟩
theorem sc_Scope_knows_piece : FnScope i_Scope_knows_piece.N ["self", "piece", "own"] (defScope s_Scope_knows_piece) := ⟨rfl, rfl, rfl, by decide +kernel, rfl, by decide +kernel, by decide +kernel⟩
theorem ok_Scope_knows_piece : ScOk i_Scope_knows_piece (defScope s_Scope_knows_piece) := ⟨rfl, by decide +kernel, by decide +kernel, by decide +kernel, by decide +kernel⟩
abbrev s_Scope_knows_within : Stmt := metS 43 4
def i_Scope_knows_within : Si := ⟨defScope s_Scope_knows_within, ["self", "condition", "own", "whole", "word", "part"], [0, 1, 2, 3, 4], [1, 4], [0, 2, 3], ["PIECES_trees", "all"], false, false⟩
theorem sc_Scope_knows_within : FnScope i_Scope_knows_within.N ["self", "condition", "own", "whole"] (defScope s_Scope_knows_within) := ⟨rfl, rfl, rfl, by decide +kernel, rfl, by decide +kernel, by decide +kernel⟩
theorem ok_Scope_knows_within : ScOk i_Scope_knows_within (defScope s_Scope_knows_within) := ⟨rfl, by decide +kernel, by decide +kernel, by decide +kernel, by decide +kernel⟩
abbrev s_Scope_knows : Stmt := metS 43 5
def i_Scope_knows : Si := ⟨defScope s_Scope_knows, ["self", "condition", "own"], [0, 1, 2], [0, 1, 2], [], ["is_condition"], false, false⟩
theorem sc_Scope_knows : FnScope i_Scope_knows.N ["self", "condition"] (defScope s_Scope_knows) := ⟨rfl, rfl, rfl, by decide +kernel, rfl, by decide +kernel, by decide +kernel⟩
theorem ok_Scope_knows : ScOk i_Scope_knows (defScope s_Scope_knows) := ⟨rfl, by decide +kernel, by decide +kernel, by decide +kernel, by decide +kernel⟩
abbrev s_Scope_take_ask : Stmt := metS 43 6
def i_Scope_take_ask : Si := ⟨defScope s_Scope_take_ask, ["self", "name", "kind"], [0, 1, 2], [0, 1, 2], [], ["is_kind"], false, false⟩
theorem sc_Scope_take_ask : FnScope i_Scope_take_ask.N ["self", "name", "kind"] (defScope s_Scope_take_ask) := ⟨rfl, rfl, rfl, by decide +kernel, rfl, by decide +kernel, by decide +kernel⟩
theorem ok_Scope_take_ask : ScOk i_Scope_take_ask (defScope s_Scope_take_ask) := ⟨rfl, by decide +kernel, by decide +kernel, by decide +kernel, by decide +kernel⟩
abbrev s_Scope_take_part : Stmt := metS 43 7
def i_Scope_take_part : Si := ⟨defScope s_Scope_take_part, ["self", "name"], [0, 1], [0, 1], [], [], false, false⟩
theorem sc_Scope_take_part : FnScope i_Scope_take_part.N ["self", "name"] (defScope s_Scope_take_part) := ⟨rfl, rfl, rfl, by decide +kernel, rfl, by decide +kernel, by decide +kernel⟩
theorem ok_Scope_take_part : ScOk i_Scope_take_part (defScope s_Scope_take_part) := ⟨rfl, by decide +kernel, by decide +kernel, by decide +kernel, by decide +kernel⟩
abbrev s_Scope_take_each : Stmt := metS 43 8
def i_Scope_take_each : Si := ⟨defScope s_Scope_take_each, ["self", "name", "question", "kind", "of_round"], [0, 1, 2, 3, 4], [0, 1, 2, 3, 4], [], ["MOST_FOLK", "is_name"], false, false⟩
theorem sc_Scope_take_each : FnScope i_Scope_take_each.N ["self", "name", "question"] (defScope s_Scope_take_each) := ⟨rfl, rfl, rfl, by decide +kernel, rfl, by decide +kernel, by decide +kernel⟩
theorem ok_Scope_take_each : ScOk i_Scope_take_each (defScope s_Scope_take_each) := ⟨rfl, by decide +kernel, by decide +kernel, by decide +kernel, by decide +kernel⟩
abbrev s_Scope_take_if : Stmt := metS 43 9
def i_Scope_take_if : Si := ⟨defScope s_Scope_take_if, ["self", "condition"], [0, 1], [0, 1], [], [], false, false⟩
theorem sc_Scope_take_if : FnScope i_Scope_take_if.N ["self", "condition"] (defScope s_Scope_take_if) := ⟨rfl, rfl, rfl, by decide +kernel, rfl, by decide +kernel, by decide +kernel⟩
theorem ok_Scope_take_if : ScOk i_Scope_take_if (defScope s_Scope_take_if) := ⟨rfl, by decide +kernel, by decide +kernel, by decide +kernel, by decide +kernel⟩
abbrev s_Scope_take_leave : Stmt := metS 43 10
def i_Scope_take_leave : Si := ⟨defScope s_Scope_take_leave, ["self", "part", "condition"], [0, 1, 2], [0, 1, 2], [], [], false, false⟩
theorem sc_Scope_take_leave : FnScope i_Scope_take_leave.N ["self", "part", "condition"] (defScope s_Scope_take_leave) := ⟨rfl, rfl, rfl, by decide +kernel, rfl, by decide +kernel, by decide +kernel⟩
theorem ok_Scope_take_leave : ScOk i_Scope_take_leave (defScope s_Scope_take_leave) := ⟨rfl, by decide +kernel, by decide +kernel, by decide +kernel, by decide +kernel⟩
abbrev s_Scope_takes : Stmt := metS 43 11
def i_Scope_takes : Si := ⟨defScope s_Scope_takes, ["self", "head", "word"], [0, 1, 2], [0, 1, 2], [], ["MOST_STEPS", "MOST_DEEP_trees", "len"], false, false⟩
theorem sc_Scope_takes : FnScope i_Scope_takes.N ["self", "head"] (defScope s_Scope_takes) := ⟨rfl, rfl, rfl, by decide +kernel, rfl, by decide +kernel, by decide +kernel⟩
theorem ok_Scope_takes : ScOk i_Scope_takes (defScope s_Scope_takes) := ⟨rfl, by decide +kernel, by decide +kernel, by decide +kernel, by decide +kernel⟩
abbrev s_Scope_close : Stmt := metS 43 12
def i_Scope_close : Si := ⟨defScope s_Scope_close, ["self", "word", "name"], [0, 1, 2], [0, 1, 2], [], [], false, false⟩
theorem sc_Scope_close : FnScope i_Scope_close.N ["self"] (defScope s_Scope_close) := ⟨rfl, rfl, rfl, by decide +kernel, rfl, by decide +kernel, by decide +kernel⟩
theorem ok_Scope_close : ScOk i_Scope_close (defScope s_Scope_close) := ⟨rfl, by decide +kernel, by decide +kernel, by decide +kernel, by decide +kernel⟩
abbrev s_heads_and_steps : Stmt := topS 44
def i_heads_and_steps : Si := ⟨defScope s_heads_and_steps, ["step"], [0], [0], [], [], false, false⟩
theorem sc_heads_and_steps : FnScope i_heads_and_steps.N ["step"] (defScope s_heads_and_steps) := ⟨rfl, rfl, rfl, by decide +kernel, rfl, by decide +kernel, by decide +kernel⟩
theorem ok_heads_and_steps : ScOk i_heads_and_steps (defScope s_heads_and_steps) := ⟨rfl, by decide +kernel, by decide +kernel, by decide +kernel, by decide +kernel⟩
abbrev s_step_fits : Stmt := topS 45
def i_step_fits : Si := ⟨defScope s_step_fits, ["scope", "step", "head", "inner", "steps"], [0, 1, 2, 3, 4], [0, 1, 2, 3, 4], [], ["heads_and_steps", "isinstance", "tuple", "str", "len", "steps_fit", "PARTS"], false, false⟩
theorem sc_step_fits : FnScope i_step_fits.N ["scope", "step"] (defScope s_step_fits) := ⟨rfl, rfl, rfl, by decide +kernel, rfl, by decide +kernel, by decide +kernel⟩
theorem ok_step_fits : ScOk i_step_fits (defScope s_step_fits) := ⟨rfl, by decide +kernel, by decide +kernel, by decide +kernel, by decide +kernel⟩
abbrev s_steps_fit : Stmt := topS 46
def i_steps_fit : Si := ⟨defScope s_steps_fit, ["scope", "steps", "step"], [0, 1, 2], [0, 1, 2], [], ["isinstance", "tuple", "step_fits"], false, false⟩
theorem sc_steps_fit : FnScope i_steps_fit.N ["scope", "steps"] (defScope s_steps_fit) := ⟨rfl, rfl, rfl, by decide +kernel, rfl, by decide +kernel, by decide +kernel⟩
theorem ok_steps_fit : ScOk i_steps_fit (defScope s_steps_fit) := ⟨rfl, by decide +kernel, by decide +kernel, by decide +kernel, by decide +kernel⟩
abbrev s_is_form : Stmt := topS 47
def i_is_form : Si := ⟨defScope s_is_form, ["thing"], [0], [0], [], ["steps_fit", "Scope"], false, false⟩
theorem sc_is_form : FnScope i_is_form.N ["thing"] (defScope s_is_form) := ⟨rfl, rfl, rfl, by decide +kernel, rfl, by decide +kernel, by decide +kernel⟩
theorem ok_is_form : ScOk i_is_form (defScope s_is_form) := ⟨rfl, by decide +kernel, by decide +kernel, by decide +kernel, by decide +kernel⟩
abbrev s_need_form : Stmt := topS 48
def i_need_form : Si := ⟨defScope s_need_form, ["thing"], [0], [0], [], ["is_form", "NoForm"], false, false⟩
theorem sc_need_form : FnScope i_need_form.N ["thing"] (defScope s_need_form) := ⟨rfl, rfl, rfl, by decide +kernel, rfl, by decide +kernel, by decide +kernel⟩
theorem ok_need_form : ScOk i_need_form (defScope s_need_form) := ⟨rfl, by decide +kernel, by decide +kernel, by decide +kernel, by decide +kernel⟩
abbrev s_block_rows : Stmt := topS 50
def i_block_rows : Si := ⟨defScope s_block_rows, ["step", "rows"], [0, 1], [0, 1], [], ["rows_of", "condition_text"], false, false⟩
theorem sc_block_rows : FnScope i_block_rows.N ["step"] (defScope s_block_rows) := ⟨rfl, rfl, rfl, by decide +kernel, rfl, by decide +kernel, by decide +kernel⟩
theorem ok_block_rows : ScOk i_block_rows (defScope s_block_rows) := ⟨rfl, by decide +kernel, by decide +kernel, by decide +kernel, by decide +kernel⟩
abbrev s_step_rows : Stmt := topS 51
def i_step_rows : Si := ⟨defScope s_step_rows, ["step"], [0], [0], [], ["block_rows", "condition_text", "kind_text"], false, false⟩
theorem sc_step_rows : FnScope i_step_rows.N ["step"] (defScope s_step_rows) := ⟨rfl, rfl, rfl, by decide +kernel, rfl, by decide +kernel, by decide +kernel⟩
theorem ok_step_rows : ScOk i_step_rows (defScope s_step_rows) := ⟨rfl, by decide +kernel, by decide +kernel, by decide +kernel, by decide +kernel⟩
abbrev s_rows_of : Stmt := topS 52
def i_rows_of : Si := ⟨defScope s_rows_of, ["steps", "found", "step"], [0, 1, 2], [0, 1, 2], [], ["step_rows"], false, false⟩
theorem sc_rows_of : FnScope i_rows_of.N ["steps"] (defScope s_rows_of) := ⟨rfl, rfl, rfl, by decide +kernel, rfl, by decide +kernel, by decide +kernel⟩
theorem ok_rows_of : ScOk i_rows_of (defScope s_rows_of) := ⟨rfl, by decide +kernel, by decide +kernel, by decide +kernel, by decide +kernel⟩
abbrev s_form_text : Stmt := topS 53
def i_form_text : Si := ⟨defScope s_form_text, ["form"], [0], [0], [], ["need_form", "rows_of"], false, false⟩
theorem sc_form_text : FnScope i_form_text.N ["form"] (defScope s_form_text) := ⟨rfl, rfl, rfl, by decide +kernel, rfl, by decide +kernel, by decide +kernel⟩
theorem ok_form_text : ScOk i_form_text (defScope s_form_text) := ⟨rfl, by decide +kernel, by decide +kernel, by decide +kernel, by decide +kernel⟩
abbrev s_L_pot : Stmt := topS 55
def i_L_pot : Si := ⟨defScope s_L_pot, ["_law_script", "_law_k", "_law_cell"], [0, 1, 2], [0, 1, 2], [], ["len", "abs", "int"], false, false⟩
theorem sc_L_pot : FnScope i_L_pot.N ["_law_script", "_law_k"] (defScope s_L_pot) := ⟨rfl, rfl, rfl, by decide +kernel, rfl, by decide +kernel, by decide +kernel⟩
theorem ok_L_pot : ScOk i_L_pot (defScope s_L_pot) := ⟨rfl, by decide +kernel, by decide +kernel, by decide +kernel, by decide +kernel⟩
abbrev s_L_take : Stmt := topS 56
def i_L_take : Si := ⟨defScope s_L_take, ["_law_pot_here", "_law_many", "_law_found", "_law_one", "_law_other"], [0, 1, 2, 3, 4], [0, 1, 2, 3, 4], [], [], false, false⟩
theorem sc_L_take : FnScope i_L_take.N ["_law_pot_here", "_law_many"] (defScope s_L_take) := ⟨rfl, rfl, rfl, by decide +kernel, rfl, by decide +kernel, by decide +kernel⟩
theorem ok_L_take : ScOk i_L_take (defScope s_L_take) := ⟨rfl, by decide +kernel, by decide +kernel, by decide +kernel, by decide +kernel⟩
abbrev s_L_name : Stmt := topS 57
def i_L_name : Si := ⟨defScope s_L_name, ["_law_pot_here", "_law_book", "_law_letters", "_law_name_here", "_law_turn", "_law_words"], [0, 1, 2, 3, 4, 5], [0, 1, 2, 3, 4, 5], [], ["range", "_law_take"], false, false⟩
theorem sc_L_name : FnScope i_L_name.N ["_law_pot_here", "_law_book"] (defScope s_L_name) := ⟨rfl, rfl, rfl, by decide +kernel, rfl, by decide +kernel, by decide +kernel⟩
theorem ok_L_name : ScOk i_L_name (defScope s_L_name) := ⟨rfl, by decide +kernel, by decide +kernel, by decide +kernel, by decide +kernel⟩
abbrev s_L_options : Stmt := topS 58
def i_L_options : Si := ⟨defScope s_L_options, ["_law_pot_here", "_law_most", "_law_some", "_law_k"], [0, 1, 2], [1], [0, 2], ["tuple", "_law_take", "range"], false, false⟩
theorem sc_L_options : FnScope i_L_options.N ["_law_pot_here", "_law_most"] (defScope s_L_options) := ⟨rfl, rfl, rfl, by decide +kernel, rfl, by decide +kernel, by decide +kernel⟩
theorem ok_L_options : ScOk i_L_options (defScope s_L_options) := ⟨rfl, by decide +kernel, by decide +kernel, by decide +kernel, by decide +kernel⟩
abbrev s_L_kind : Stmt := topS 59
def i_L_kind : Si := ⟨defScope s_L_kind, ["_law_pot_here", "_law_small", "_law_way", "_law_low"], [0, 1, 2, 3], [0, 1, 2, 3], [], ["_law_take", "_law_options", "min"], false, false⟩
theorem sc_L_kind : FnScope i_L_kind.N ["_law_pot_here", "_law_small"] (defScope s_L_kind) := ⟨rfl, rfl, rfl, by decide +kernel, rfl, by decide +kernel, by decide +kernel⟩
theorem ok_L_kind : ScOk i_L_kind (defScope s_L_kind) := ⟨rfl, by decide +kernel, by decide +kernel, by decide +kernel, by decide +kernel⟩
abbrev s_L_piece : Stmt := topS 60
def i_L_piece : Si := ⟨defScope s_L_piece, ["_law_pot_here", "_law_ask", "_law_name_here", "_law_kind_here", "_law_near", "_law_number"], [0, 1, 2, 3, 4, 5], [0, 1, 2, 3, 4, 5], [], ["min", "_law_take", "max", "len"], false, false⟩
theorem sc_L_piece : FnScope i_L_piece.N ["_law_pot_here", "_law_ask"] (defScope s_L_piece) := ⟨rfl, rfl, rfl, by decide +kernel, rfl, by decide +kernel, by decide +kernel⟩
theorem ok_L_piece : ScOk i_L_piece (defScope s_L_piece) := ⟨rfl, by decide +kernel, by decide +kernel, by decide +kernel, by decide +kernel⟩
abbrev s_L_condition : Stmt := topS 61
def i_L_condition : Si := ⟨defScope s_L_condition, ["_law_pot_here", "_law_asks", "_law_rounds", "_law_deep", "_law_way", "_law_some", "_law_name_here", "_law_own", "_law_parts", "_law_ended", "_law_k"], [0, 1, 2, 3, 4, 5, 6, 7, 8], [4, 5, 6, 7, 8], [0, 1, 2, 3], ["_law_take", "_law_piece", "_law_condition", "tuple", "range", "len"], false, false⟩
theorem sc_L_condition : FnScope i_L_condition.N ["_law_pot_here", "_law_asks", "_law_rounds", "_law_deep"] (defScope s_L_condition) := ⟨rfl, rfl, rfl, by decide +kernel, rfl, by decide +kernel, by decide +kernel⟩
theorem ok_L_condition : ScOk i_L_condition (defScope s_L_condition) := ⟨rfl, by decide +kernel, by decide +kernel, by decide +kernel, by decide +kernel⟩
abbrev s_L_steps : Stmt := topS 62
def i_L_steps : Si := ⟨defScope s_L_steps, ["_law_pot_here", "_law_book", "_law_parts", "_law_inside", "_law_deep", "_law_found", "_law_turn", "_law_way", "_law_asks", "_law_can", "_law_counts", "_law_ask", "_law_ended"], [0, 1, 2, 3, 4, 5, 6, 7, 8, 9, 10], [0, 1, 2, 3, 4, 5, 6, 7, 8, 9, 10], [], ["range", "tuple", "_law_take", "_law_step", "int"], false, false⟩
theorem sc_L_steps : FnScope i_L_steps.N ["_law_pot_here", "_law_book", "_law_parts", "_law_inside", "_law_deep"] (defScope s_L_steps) := ⟨rfl, rfl, rfl, by decide +kernel, rfl, by decide +kernel, by decide +kernel⟩
theorem ok_L_steps : ScOk i_L_steps (defScope s_L_steps) := ⟨rfl, by decide +kernel, by decide +kernel, by decide +kernel, by decide +kernel⟩
abbrev s_L_step : Stmt := topS 63
def i_L_step : Si := ⟨defScope s_L_step, ["_law_pot_here", "_law_book", "_law_parts", "_law_inside", "_law_told", "_law_deep", "_law_way", "_law_can", "_law_counts", "_law_rounds", "_law_condition_here", "_law_first", "_law_other", "_law_name_here", "_law_steps_here", "_law_ask"], [0, 1, 2, 3, 4, 5, 6, 7, 8, 9, 10, 11, 12, 13, 14, 15], [0, 1, 2, 3, 4, 5, 6, 7, 8, 9, 10, 11, 12, 13, 14, 15], [], ["int", "_law_condition", "_law_steps", "_law_name", "_law_kind", "_law_take", "len"], false, false⟩
theorem sc_L_step : FnScope i_L_step.N ["_law_pot_here", "_law_book", "_law_parts", "_law_inside", "_law_told"] (defScope s_L_step) := ⟨rfl, rfl, rfl, by decide +kernel, rfl, by decide +kernel, by decide +kernel⟩
theorem ok_L_step : ScOk i_L_step (defScope s_L_step) := ⟨rfl, by decide +kernel, by decide +kernel, by decide +kernel, by decide +kernel⟩
abbrev s_L_form : Stmt := topS 64
def i_L_form : Si := ⟨defScope s_L_form, ["_law_pot_here", "_law_size"], [0, 1], [0, 1], [], ["_law_steps", "_law_take"], false, false⟩
theorem sc_L_form : FnScope i_L_form.N ["_law_pot_here", "_law_size"] (defScope s_L_form) := ⟨rfl, rfl, rfl, by decide +kernel, rfl, by decide +kernel, by decide +kernel⟩
theorem ok_L_form : ScOk i_L_form (defScope s_L_form) := ⟨rfl, by decide +kernel, by decide +kernel, by decide +kernel, by decide +kernel⟩
abbrev s_L_kind_text : Stmt := topS 65
def i_L_kind_text : Si := ⟨defScope s_L_kind_text, ["_law_kind_here", "_law_some", "_law_part"], [0, 1], [0, 1], [], [], false, false⟩
theorem sc_L_kind_text : FnScope i_L_kind_text.N ["_law_kind_here"] (defScope s_L_kind_text) := ⟨rfl, rfl, rfl, by decide +kernel, rfl, by decide +kernel, by decide +kernel⟩
theorem ok_L_kind_text : ScOk i_L_kind_text (defScope s_L_kind_text) := ⟨rfl, by decide +kernel, by decide +kernel, by decide +kernel, by decide +kernel⟩
abbrev s_L_condition_text : Stmt := topS 66
def i_L_condition_text : Si := ⟨defScope s_L_condition_text, ["_law_condition_here", "_law_word", "_law_some", "_law_part"], [0, 1, 2], [0, 1, 2], [], ["str", "_law_condition_text"], false, false⟩
theorem sc_L_condition_text : FnScope i_L_condition_text.N ["_law_condition_here"] (defScope s_L_condition_text) := ⟨rfl, rfl, rfl, by decide +kernel, rfl, by decide +kernel, by decide +kernel⟩
theorem ok_L_condition_text : ScOk i_L_condition_text (defScope s_L_condition_text) := ⟨rfl, by decide +kernel, by decide +kernel, by decide +kernel, by decide +kernel⟩
abbrev s_L_rows : Stmt := topS 67
def i_L_rows : Si := ⟨defScope s_L_rows, ["_law_steps_here", "_law_found", "_law_step_here", "_law_word", "_law_other"], [0, 1, 2, 3, 4], [0, 1, 2, 3, 4], [], ["_law_kind_text", "_law_condition_text", "_law_rows"], false, false⟩
theorem sc_L_rows : FnScope i_L_rows.N ["_law_steps_here"] (defScope s_L_rows) := ⟨rfl, rfl, rfl, by decide +kernel, rfl, by decide +kernel, by decide +kernel⟩
theorem ok_L_rows : ScOk i_L_rows (defScope s_L_rows) := ⟨rfl, by decide +kernel, by decide +kernel, by decide +kernel, by decide +kernel⟩
abbrev s_law : Stmt := topS 68
def i_law : Si := ⟨defScope s_law, ["_law_script", "_law_k", "_law_pot_here", "_law_form_here", "_law_due", "_law_found"], [0, 1, 2, 3, 4, 5], [0, 1, 2, 3, 4, 5], [], ["range", "max", "_law_pot", "_law_form", "min", "_law_rows", "len", "form_text", "_law_take", "isinstance", "str", "int"], false, false⟩
theorem sc_law : FnScope i_law.N ["_law_script"] (defScope s_law) := ⟨rfl, rfl, rfl, by decide +kernel, rfl, by decide +kernel, by decide +kernel⟩
theorem ok_law : ScOk i_law (defScope s_law) := ⟨rfl, by decide +kernel, by decide +kernel, by decide +kernel, by decide +kernel⟩
/-- what the top leaves -/
structure Txt (g : Gc) : Prop where
  sy : SysOk g.base
  p_is_whole : Pl g "is_whole" s_is_whole
  p_is_within : Pl g "is_within" s_is_within
  p_is_number : Pl g "is_number" s_is_number
  p_is_name : Pl g "is_name" s_is_name
  p_are_options : Pl g "are_options" s_are_options
  p_is_count : Pl g "is_count" s_is_count
  p_is_kind : Pl g "is_kind" s_is_kind
  p_need_kind : Pl g "need_kind" s_need_kind
  p_written : Pl g "written" s_written
  p_kind_text : Pl g "kind_text" s_kind_text
  p_is_piece : Pl g "is_piece" s_is_piece
  p_pieces_of_parts : Pl g "pieces_of_parts" s_pieces_of_parts
  p_pieces_in : Pl g "pieces_in" s_pieces_in
  p_is_condition : Pl g "is_condition" s_is_condition
  p_need_condition : Pl g "need_condition" s_need_condition
  p_worded : Pl g "worded" s_worded
  p_condition_text : Pl g "condition_text" s_condition_text
  p_Scope_init : PlI g "Scope" "Scope.__init__" s_Scope_init
  p_Scope_own_round : PlM g (clsA g "Scope") "own_round" "Scope.own_round" s_Scope_own_round
  p_Scope_is_new : PlM g (clsA g "Scope") "is_new" "Scope.is_new" s_Scope_is_new
  p_Scope_knows_piece : PlM g (clsA g "Scope") "knows_piece" "Scope.knows_piece" s_Scope_knows_piece
  p_Scope_knows_within : PlM g (clsA g "Scope") "knows_within" "Scope.knows_within" s_Scope_knows_within
  p_Scope_knows : PlM g (clsA g "Scope") "knows" "Scope.knows" s_Scope_knows
  p_Scope_take_ask : PlM g (clsA g "Scope") "take_ask" "Scope.take_ask" s_Scope_take_ask
  p_Scope_take_part : PlM g (clsA g "Scope") "take_part" "Scope.take_part" s_Scope_take_part
  p_Scope_take_each : PlM g (clsA g "Scope") "take_each" "Scope.take_each" s_Scope_take_each
  p_Scope_take_if : PlM g (clsA g "Scope") "take_if" "Scope.take_if" s_Scope_take_if
  p_Scope_take_leave : PlM g (clsA g "Scope") "take_leave" "Scope.take_leave" s_Scope_take_leave
  p_Scope_takes : PlM g (clsA g "Scope") "takes" "Scope.takes" s_Scope_takes
  p_Scope_close : PlM g (clsA g "Scope") "close" "Scope.close" s_Scope_close
  p_heads_and_steps : Pl g "heads_and_steps" s_heads_and_steps
  p_step_fits : Pl g "step_fits" s_step_fits
  p_steps_fit : Pl g "steps_fit" s_steps_fit
  p_is_form : Pl g "is_form" s_is_form
  p_need_form : Pl g "need_form" s_need_form
  p_block_rows : Pl g "block_rows" s_block_rows
  p_step_rows : Pl g "step_rows" s_step_rows
  p_rows_of : Pl g "rows_of" s_rows_of
  p_form_text : Pl g "form_text" s_form_text
  p_L_pot : Pl g "_law_pot" s_L_pot
  p_L_take : Pl g "_law_take" s_L_take
  p_L_name : Pl g "_law_name" s_L_name
  p_L_options : Pl g "_law_options" s_L_options
  p_L_kind : Pl g "_law_kind" s_L_kind
  p_L_piece : Pl g "_law_piece" s_L_piece
  p_L_condition : Pl g "_law_condition" s_L_condition
  p_L_steps : Pl g "_law_steps" s_L_steps
  p_L_step : Pl g "_law_step" s_L_step
  p_L_form : Pl g "_law_form" s_L_form
  p_L_kind_text : Pl g "_law_kind_text" s_L_kind_text
  p_L_condition_text : Pl g "_law_condition_text" s_L_condition_text
  p_L_rows : Pl g "_law_rows" s_L_rows
  p_law : Pl g "law" s_law
  k_Scope : Cls g.K (clsA g "Scope")
  a_Scope_asked : NoAttr g.K (clsA g "Scope") "asked"
  a_Scope_named : NoAttr g.K (clsA g "Scope") "named"
  a_Scope_ended : NoAttr g.K (clsA g "Scope") "ended"
  a_Scope_begun : NoAttr g.K (clsA g "Scope") "begun"
  a_Scope_steps : NoAttr g.K (clsA g "Scope") "steps"
  n_isinstance : g.mg "isinstance" = none
  n_int : g.mg "int" = none
  n_bool : g.mg "bool" = none
  n_all : g.mg "all" = none
  n_str : g.mg "str" = none
  n_len : g.mg "len" = none
  n_tuple : g.mg "tuple" = none
  n_set : g.mg "set" = none
  n_sum : g.mg "sum" = none
  n_abs : g.mg "abs" = none
  n_range : g.mg "range" = none
  n_min : g.mg "min" = none
  n_max : g.mg "max" = none
  e_NoKind : ECls g "NoKind"
  e_NoCondition : ECls g "NoCondition"
  v_PIECES_trees : ∃ d, KVal g "PIECES_trees" d kv_PIECES_trees
  v_PARTS : ∃ d, KVal g "PARTS" d kv_PARTS
  c_MOST_NUMBER : Cst g "MOST_NUMBER" k_MOST_NUMBER
  c_WORDS : Cst g "WORDS" k_WORDS
  c_MOST_LETTERS : Cst g "MOST_LETTERS" k_MOST_LETTERS
  c_LETTERS : Cst g "LETTERS" k_LETTERS
  c_MOST_OPTIONS : Cst g "MOST_OPTIONS" k_MOST_OPTIONS
  c_PIECES_conditions : ∃ d, KTab g "PIECES_conditions" d ["is", "has", "from", "to"]
  c_MOST_PARTS : Cst g "MOST_PARTS" k_MOST_PARTS
  c_MOST_DEEP_conditions : Cst g "MOST_DEEP_conditions" k_MOST_DEEP_conditions
  c_MOST_PIECES : Cst g "MOST_PIECES" k_MOST_PIECES
  c_PIECES_trees : ∃ d, KTab g "PIECES_trees" d ["is", "has", "from", "to"]
  c_MOST_FOLK : Cst g "MOST_FOLK" k_MOST_FOLK
  c_MOST_STEPS : Cst g "MOST_STEPS" k_MOST_STEPS
  c_MOST_DEEP_trees : Cst g "MOST_DEEP_trees" k_MOST_DEEP_trees
/-- a function of one datum -/
def sp1 (C : PyData → Prop) (f : PyData → PyData) : SpD := fun ws M Q _ => ∃ x, ws = [.d x] ∧ C x ∧ Q (.d (f x)) M
theorem sp1_len {C f} : ∀ ws M Q E, sp1 C f ws M Q E → ws.length = 1 := by rintro _ _ _ _ ⟨x, rfl, _⟩; rfl
def sp0 (d : PyData) : SpD := fun ws M Q _ => ws = [] ∧ Q (.d d) M
theorem sp0_len {d} : ∀ ws M Q E, sp0 d ws M Q E → ws.length = 0 := by rintro _ _ _ _ ⟨rfl, _⟩; rfl
/-- a whole number within bounds -/
def spWithin (f : PyData → Int → Int → PyData) : SpD := fun ws M Q _ => ∃ x a b, ws = [.d x, .d (.int a), .d (.int b)] ∧ Q (.d (f x a b)) M
theorem spWithin_len {f} : ∀ ws M Q E, spWithin f ws M Q E → ws.length = 3 := by rintro _ _ _ _ ⟨x, a, b, rfl, _⟩; rfl
theorem qcast {Q : W → MH → Prop} {M : MH} {a b : Bool} (h : Q (.d (.bool a)) M) (e : a = b) : Q (.d (.bool b)) M := by rw [← e]; exact h
end Ms
set_option Elab.async false
set_option linter.all false
set_option maxRecDepth 100000
namespace Ms
open PySem PySem.Spec PyProof.Rows L2 Dl
def isWhole : PyData → Bool | .int _ => true | _ => false
def isWithin (x : PyData) (a b : Int) : Bool := match x with | .int n => decide (a ≤ n) && decide (n ≤ b) | _ => false
def wordsD : List PyData := [.str "ask", .str "pick", .str "some", .str "count", .str "if", .str "else", .str "end", .str "part", .str "leave", .str "each", .str "hard", .str "soft", .str "is", .str "has", .str "from", .str "to", .str "not", .str "and", .str "or", .str "any", .str "every"]
/-- a small letter -/
def isLow (c : Nat) : Bool := decide (97 ≤ c) && decide (c ≤ 122)
def lowW : W → Bool
  | .d (.str z) => (match z.cps.toList with | [c] => isLow c | _ => false)
  | _ => false
def unW : W → PyData
  | .d x => x
  | _ => .none
theorem lowW_one (c : Nat) : lowW (.d (.str ⟨#[c]⟩)) = isLow c := rfl
def isNameS (z : Str) : Bool := decide (1 ≤ z.length) && decide (z.length ≤ 8) && !inD (.str z) wordsD && z.cps.toList.all isLow
def isName : PyData → Bool | .str z => isNameS z | _ => false
def okT (x : PyData) : Prop := okL (2 ^ 198) x = true ∧ x.weight ≤ 16000000
theorem d_is_whole {g : Gc} (T : Txt g) : Df g 1 "is_whole" ["thing"] (sp1 (fun _ => True) fun x => .bool (isWhole x)) := by
  refine df_of (k := 0) (i := i_is_whole) T.p_is_whole T.sy sc_is_whole ok_is_whole (fun _ _ _ _ _ _ us hl => match us, hl with | [_], _ => rfl) ?_ (fun Y ws M Q E F hE h => ?_)
  · exact sp1_len
  · obtain ⟨x, rfl, _, h⟩ := h
    refine ⟨_, (ss_one (s_ret (q_and (q_isi F 0 1 isk_int T.n_isinstance T.n_int (by decide +kernel) (q_var F 0)) (q_one (q_not (q_isi F 0 2 isk_bool T.n_isinstance T.n_bool (by decide +kernel) (q_var F 0))))))), ?_⟩
    cases x <;> exact h
theorem d_is_within {g : Gc} (T : Txt g) : Df g 2 "is_within" ["thing", "low", "high"] (spWithin fun x a b => .bool (isWithin x a b)) := by
  refine df_of (k := 1) (i := i_is_within) T.p_is_within T.sy sc_is_within ok_is_within (fun _ _ _ _ _ _ us hl => match us, hl with | [_, _, _], _ => rfl) ?_ (fun Y ws M Q E F hE h => ?_)
  · exact spWithin_len
  · obtain ⟨x, a, b, rfl, h⟩ := h
    refine ⟨_, (ss_one (s_ret (q_and (q_call F 0 (d_is_whole T) (a_cons (q_var F 0) a_nil)) (q_one (q_chn o_le o_le (q_var F 1) (q_var F 0) (q_var F 2)))))), ?_⟩
    refine ⟨x, rfl, trivial, ?_⟩
    cases x with
    | int n =>
      refine ifD (fun h1 => ?_) (fun h1 => ?_)
      · exact qcast h (by simp [isWithin, show a ≤ n from h1])
      · exact qcast h (by simp [isWithin, show ¬ a ≤ n from h1])
    | _ => exact h
theorem d_is_number {g : Gc} (T : Txt g) : Df g 3 "is_number" ["thing"] (sp1 (fun _ => True) fun x => .bool (isWithin x 0 1000000)) := by
  refine df_of (k := 2) (i := i_is_number) T.p_is_number T.sy sc_is_number ok_is_number (fun _ _ _ _ _ _ us hl => match us, hl with | [_], _ => rfl) ?_ (fun Y ws M Q E F hE h => ?_)
  · exact sp1_len
  · obtain ⟨x, rfl, _, h⟩ := h
    exact ⟨_, (ss_one (s_ret (q_call F 0 (d_is_within T) (a_cons (q_var F 0) (a_cons q_int (a_cons (q_cst F 1 T.c_MOST_NUMBER) a_nil)))))), x, 0, 1000000, rfl, h⟩
theorem low_in (c : Nat) : within ⟨#[c]⟩ "abcdefghijklmnopqrstuvwxyz" = isLow c := by
  rw [within_one]
  unfold isLow
  rw [← Bool.decide_and]
  apply decide_eq_decide.mpr
  have e : ("abcdefghijklmnopqrstuvwxyz" : Str).cps.toList = List.range' 97 26 := by decide +kernel
  rw [e, List.mem_range'_1]
  omega
theorem words_lay : PyData.canLayAll0 wordsD = true := by decide +kernel
theorem words_depth : PyData.depthAll wordsD ≤ 1 := by decide +kernel
theorem in_words {z : Str} (h : (PyData.str z).canLay0 = true) : inOk (.str z) wordsD = true := by
  unfold inOk
  rw [words_lay, h]
  have := words_depth
  simp
  omega
theorem d_is_name {g : Gc} (T : Txt g) : Df g 1 "is_name" ["thing"] (sp1 okT fun x => .bool (isName x)) := by
  refine df_of (k := 0) (i := i_is_name) T.p_is_name T.sy sc_is_name ok_is_name (fun _ _ _ _ _ _ us hl => match us, hl with | [_], _ => rfl) ?_ (fun Y ws M Q E F hE h => ?_)
  · exact sp1_len
  · obtain ⟨x, rfl, hx, h⟩ := h
    refine ⟨_, (ss_cons (s_if (QW.pt (w_or (t_not (t_val (q_isi F 2 3 isk_str T.n_isinstance T.n_str (by decide +kernel) (q_var F 0)))) (w_or (t_not (t_chn o_le o_le q_int (q_callB F 5 c_len T.n_len (by decide +kernel) (a_cons (q_var F 0) a_nil)) (q_cst F 4 T.c_MOST_LETTERS))) (w_or1 (t_cmp (o_in F) (q_var F 0) (q_cst F 1 T.c_WORDS)))))) (ss_one (s_ret q_bool)) ss_nil) (ss_one (s_ret (q_callB F 0 (c_all F) T.n_all (by decide +kernel) (a_cons (q_lc (own := [("sign", 1)]) F ⟨_, ["thing", "sign"], [1], [1], [], ["LETTERS"], false, true⟩ (.one 1) ⟨rfl, rfl, ⟨rfl, by decide +kernel, by decide +kernel, by decide +kernel, by decide +kernel⟩, by decide +kernel, by decide +kernel, rfl, rfl⟩ (by decide) (i_str (q_var F 0)) (fun _ F hw => ⟨(pgN F 1), ts_nil, (q_cmp o_inS (q_var F 1) (q_cst F 0 T.c_LETTERS))⟩)) a_nil))))), ?_⟩
    cases x with
    | str z =>
      have hz : small z.length := small_of (Nat.le_trans hx.2 (by decide))
      have no : isName (.str z) = false → Q (.d (.bool false)) M := fun e => qcast h e
      by_cases h1 : (1 : Int) ≤ (z.length : Int)
      case neg =>
        refine ⟨hz, ?_⟩
        refine ifD (fun c => absurd c h1) (fun _ => ?_)
        exact no (by simp [isName, isNameS]; omega)
      refine ⟨hz, ?_⟩
      refine ifD (fun _ => ?_) (fun c => absurd h1 c)
      dsimp only [tK, rInt0, k_MOST_LETTERS]
      by_cases h2 : (z.length : Int) ≤ 8
      case neg =>
        refine bqc false (decide_eq_false h2) ?_
        exact no (by simp [isName, isNameS]; omega)
      refine bqc true (decide_eq_true h2) ?_
      refine ⟨in_words hx.1, ?_⟩
      cases hw : inD (.str z) wordsD with
      | true =>
        refine bqc true hw ?_
        exact no (by simp [isName, isNameS, hw])
      | false =>
        refine bqc false hw ?_
        refine lcA (T := .one 1) (fun w => .bool (lowW w)) ?_ (fun _ _ _ => trivial) ?_ ?_
        · simp [Dl.signs]
          exact Nat.le_trans hx.2 (by decide)
        · intro w hw M2 _ R r
          obtain ⟨c, rfl⟩ : ∃ c, w = .d (.str ⟨#[c]⟩) := by
            unfold Dl.signs at hw
            obtain ⟨c, _, e⟩ := List.mem_map.mp hw
            exact ⟨c, e.symm⟩
          exact cast (congrArg (fun b => R (.d (.bool b)) M2) (low_in c).symm) r
        · dsimp only [tNilA, Dl.rAll]
          have e : (Dl.signs z).map (fun w => PyData.bool (lowW w)) = (z.cps.toList.map isLow).map PyData.bool := by
            unfold Dl.signs
            rw [List.map_map, List.map_map]
            rfl
          rw [e, bools_map]
          refine qcast h ?_
          have h1' : 1 ≤ z.length := by omega
          have h2' : z.length ≤ 8 := by omega
          simp [isName, isNameS, hw, h1', h2']
    | _ => exact h
theorem sa : ("a" : Str).cps.toList = [97] := by decide +kernel
theorem sz : ("z" : Str).cps.toList = [122] := by decide +kernel
theorem low_le (c : Nat) : (!decide (([c] : List Nat) < [97]) && !decide (([122] : List Nat) < [c])) = isLow c := by
  unfold isLow
  have e1 : ([c] < [97]) ↔ c < 97 := by rw [List.cons_lt_cons_iff]; exact ⟨fun h => h.elim id fun h => absurd h.2 (List.not_lt_nil _), .inl⟩
  have e2 : ([122] < [c]) ↔ 122 < c := by rw [List.cons_lt_cons_iff]; exact ⟨fun h => h.elim id fun h => absurd h.2 (List.not_lt_nil _), .inl⟩
  rw [show decide (([c] : List Nat) < [97]) = decide (c < 97) from decide_eq_decide.mpr e1, show decide (([122] : List Nat) < [c]) = decide (122 < c) from decide_eq_decide.mpr e2]
  by_cases a : c < 97 <;> by_cases b : 122 < c <;> simp [a, b] <;> omega
theorem one_lay {l : List Nat} (h : ∀ c ∈ l, c < 1114112) : PyData.canLayAll0 (l.map fun c => PyData.str ⟨#[c]⟩) = true := by
  induction l with
  | nil => rfl
  | cons c l ih =>
    have hc := h c List.mem_cons_self
    rw [List.map_cons]
    show (PyData.canLay0 (.str ⟨#[c]⟩) && _) = true
    rw [ih fun c hm => h c (List.mem_cons_of_mem _ hm)]
    simp [PyData.canLay0, PyData.strOk, hc]
theorem weight_mem : ∀ {ds : List PyData} {d : PyData}, d ∈ ds → d.weight ≤ PyData.weightAll ds
  | x :: xs, d, m => by
    simp only [PyData.weightAll]
    rcases List.mem_cons.mp m with e | m
    · rw [e]; omega
    · have := weight_mem m; omega
theorem length_weight : ∀ (ds : List PyData), ds.length ≤ PyData.weightAll ds
  | [] => Nat.le_refl _
  | x :: xs => by
    have := length_weight xs
    simp only [PyData.weightAll, List.length_cons]
    omega
theorem okT_mem {ds : List PyData} {d : PyData} (h : okT (.tuple ds)) (m : d ∈ ds) : okT d := by
  refine ⟨okLA_iff.mp h.1 d m, Nat.le_trans (weight_mem m) ?_⟩
  have := h.2
  simpa [PyData.weight] using this
theorem okT_len {ds : List PyData} (h : okT (.tuple ds)) : ds.length ≤ 16000000 := by
  have := h.2
  simp only [PyData.weight] at this
  exact Nat.le_trans (length_weight ds) this
def dist (ds : List PyData) : Bool := match strsD ds with | some zs => ((Ds.met zs).length : Int) == (ds.length : Int) | none => false
def isOpts : PyData → Bool
  | .tuple ds => decide (1 ≤ ds.length) && decide (ds.length ≤ 6) && ds.all isName && dist ds
  | _ => false
theorem names_strs : ∀ {ds : List PyData}, ds.all isName = true → ∃ zs, strsD ds = some zs ∧ zs.length = ds.length
  | [], _ => ⟨[], rfl, rfl⟩
  | d :: ds, h => by
    simp only [List.all_cons, Bool.and_eq_true] at h
    obtain ⟨zs, e, l⟩ := names_strs h.2
    cases d with
    | str z => exact ⟨z :: zs, by show (strsD ds).map (z :: ·) = _; rw [e]; rfl, by simp [l]⟩
    | _ => exact Bool.noConfusion (show false = true from h.1)
theorem d_are_options {g : Gc} (T : Txt g) : Df g 2 "are_options" ["thing"] (sp1 okT fun x => .bool (isOpts x)) := by
  refine df_of (k := 1) (i := i_are_options) T.p_are_options T.sy sc_are_options ok_are_options (fun _ _ _ _ _ _ us hl => match us, hl with | [_], _ => rfl) ?_ (fun Y ws M Q E F hE h => ?_)
  · exact sp1_len
  · obtain ⟨x, rfl, hx, h⟩ := h
    refine ⟨_, (ss_cons (s_if (QW.pt (w_or (t_not (t_val (q_isi F 1 2 isk_tuple T.n_isinstance T.n_tuple (by decide +kernel) (q_var F 0)))) (w_or1 (t_not (t_chn o_le o_le q_int (q_callB F 4 c_len T.n_len (by decide +kernel) (a_cons (q_var F 0) a_nil)) (q_cst F 3 T.c_MOST_OPTIONS)))))) (ss_one (s_ret q_bool)) ss_nil) (ss_one (s_ret (q_and (q_callB F 0 (c_all F) T.n_all (by decide +kernel) (a_cons (q_lc (own := [("option", 1)]) F ⟨_, ["thing", "option"], [1], [1], [], ["is_name"], false, true⟩ (.one 1) ⟨rfl, rfl, ⟨rfl, by decide +kernel, by decide +kernel, by decide +kernel, by decide +kernel⟩, by decide +kernel, by decide +kernel, rfl, rfl⟩ (by decide) (i_tup (q_var F 0)) (fun _ F hw => ⟨(pgN F 1), ts_nil, (q_callW hw F 0 (d_is_name T) (a_cons (q_var F 1) a_nil))⟩)) a_nil)) (q_one (q_cmp (o_eq F) (q_lenset F 4 5 T.n_len T.n_set (q_var F 0)) (q_callB F 4 c_len T.n_len (by decide +kernel) (a_cons (q_var F 0) a_nil)))))))), ?_⟩
    cases x with
    | tuple ds =>
      have no : isOpts (.tuple ds) = false → Q (.d (.bool false)) M := fun e => qcast h e
      by_cases h1 : (1 : Int) ≤ (ds.length : Int)
      case neg =>
        refine ifD (fun c => absurd c h1) (fun _ => ?_)
        exact no (by simp [isOpts]; omega)
      refine ifD (fun _ => ?_) (fun c => absurd h1 c)
      dsimp only [tK, rInt0, k_MOST_OPTIONS]
      by_cases h2 : (ds.length : Int) ≤ 6
      case neg =>
        refine bqc false (decide_eq_false h2) ?_
        exact no (by simp [isOpts]; omega)
      refine bqc true (decide_eq_true h2) ?_
      refine lcA (T := .one 1) (fun w => .bool (isName (unW w))) ?_ (fun _ _ _ => trivial) ?_ ?_
      · simpa using okT_len hx
      · intro w hw M2 _ R r
        obtain ⟨d, hd, rfl⟩ := List.mem_map.mp hw
        exact ⟨d, rfl, okT_mem hx hd, r⟩
      · dsimp only [tNilA, Dl.rAll]
        have e : (ds.map W.d).map (fun w => PyData.bool (isName (unW w))) = (ds.map isName).map PyData.bool := by
          rw [List.map_map, List.map_map]
          rfl
        rw [e, bools_map]
        have all : (ds.map isName).all id = ds.all isName := by rw [List.all_map]; rfl
        dsimp only
        rw [all]
        have h1' : 1 ≤ ds.length := by omega
        have h2' : ds.length ≤ 6 := by omega
        cases hn : ds.all isName with
        | false => exact no (by simp [isOpts, hn])
        | true =>
          obtain ⟨zs, e1, e2⟩ := names_strs hn
          have e3 : isOpts (.tuple ds) = PyData.eqv (.int ((Ds.met zs).length : Nat)) (.int (ds.length : Nat)) := by
            simp only [isOpts, dist, e1, hn, PyData.eqv]
            simp [h1', h2']
          refine bqc true rfl ?_
          show (match strsD ds with | some zs => zs.length ≤ 4000 ∧ _ | none => False)
          rw [e1]
          exact ⟨by omega, rfl, qcast h e3⟩
    | _ => exact h
def psD : List PyData := [.str "pick", .str "some"]
def cnt : List PyData → Bool
  | [.int a, .int b] => decide (0 ≤ a) && decide (a ≤ b) && decide (b ≤ 1000000)
  | _ => false
def isKind : PyData → Bool
  | .tuple (.str t :: r) => if inD (.str t) psD = true then (match r with | [y] => isOpts y | _ => false) else PyData.eqv (.str t) (.str "count") && cnt r
  | _ => false
theorem cnt_no {a b : PyData} (h : (isWhole a && isWhole b) = false) : cnt [a, b] = false := by
  cases a <;> cases b <;> first | rfl | exact Bool.noConfusion (show true = false from h)
theorem whole_of {a : PyData} (h : isWhole a = true) : ∃ p, a = .int p := by cases a <;> first | exact ⟨_, rfl⟩ | exact Bool.noConfusion (show false = true from h)
theorem within_no {a : PyData} {l h : Int} (e : isWhole a = false) : isWithin a l h = false := by cases a <;> first | rfl | exact Bool.noConfusion (show true = false from e)
/-- a list of one thing ahead -/
def spCnt : SpD := fun ws M Q _ => ∃ t r, ws = [.d (.tuple (t :: r))] ∧ Q (.d (.bool (cnt r))) M
theorem spCnt_len : ∀ ws M Q E, spCnt ws M Q E → ws.length = 1 := by rintro _ _ _ _ ⟨x, r, rfl, _⟩; rfl
theorem d_is_count {g : Gc} (T : Txt g) : Df g 4 "is_count" ["thing"] spCnt := by
  refine df_of (k := 3) (i := i_is_count) T.p_is_count T.sy sc_is_count ok_is_count (fun _ _ _ _ _ _ us hl => match us, hl with | [_], _ => rfl) ?_ (fun Y ws M Q E F hE h => ?_)
  · exact spCnt_len
  · obtain ⟨t, r, rfl, h⟩ := h
    refine ⟨_, (ss_one (s_ret (q_and (q_cmp (o_eq F) (q_callB F 1 c_len T.n_len (by decide +kernel) (a_cons (q_var F 0) a_nil)) q_int) (q_and (q_call F 0 (d_is_number T) (a_cons (q_ix (q_var F 0) q_int) a_nil)) (q_and (q_call F 0 (d_is_number T) (a_cons (q_ix (q_var F 0) q_int) a_nil)) (q_one (q_cmp o_le (q_ix (q_var F 0) q_int) (q_ix (q_var F 0) q_int)))))))), ?_⟩
    have no : cnt r = false → Q (.d (.bool false)) M := fun e => qcast h e
    match r, h, no with
    | [], _, no => exact ⟨rfl, bqc false (by simp [PyData.eqv]) (no rfl)⟩
    | [a], _, no => exact ⟨rfl, bqc false (by simp [PyData.eqv]) (no (by cases a <;> rfl))⟩
    | a :: b :: c :: l, _, no => exact ⟨rfl, bqc false (by simp [PyData.eqv]; omega) (no (by cases a <;> first | rfl | (cases b <;> rfl)))⟩
    | [a, b], h, no =>
      refine ⟨rfl, bqc true (by simp [PyData.eqv]) ⟨_, at1, a, rfl, trivial, ?_⟩⟩
      cases wa : isWhole a with
      | false => exact bqc false (within_no wa) (no (cnt_no (by rw [wa]; rfl)))
      | true =>
        obtain ⟨p, rfl⟩ := whole_of wa
        cases ia : isWithin (.int p) 0 1000000 with
        | false =>
          refine bqc false ia (no ?_)
          cases b with
          | int q => 
            simp [isWithin] at ia
            simp [cnt]
            omega
          | _ => rfl
        | true =>
          refine bqc true ia ⟨_, at2, b, rfl, trivial, ?_⟩
          cases wb : isWhole b with
          | false => exact bqc false (within_no wb) (no (cnt_no (by rw [wb, Bool.and_false])))
          | true =>
            obtain ⟨q, rfl⟩ := whole_of wb
            cases ib : isWithin (.int q) 0 1000000 with
            | false =>
              refine bqc false ib (no ?_)
              simp [isWithin] at ia ib
              simp [cnt]
              omega
            | true =>
              refine bqc true ib ⟨_, at1, _, at2, ?_⟩
              refine qcast h ?_
              simp [isWithin] at ia ib
              simp [cnt, ia.1, ib.2]
theorem in_lits {t : Str} {r : List PyData} (h : okT (.tuple (.str t :: r))) : inOk (.str t) psD = true := by
  have h1 : (PyData.str t).canLay0 = true := (okT_mem h List.mem_cons_self).1
  unfold inOk
  rw [h1, show PyData.canLayAll0 psD = true by decide +kernel]
  have : PyData.depthAll psD ≤ 1 := by decide +kernel
  simp
  omega
theorem d_is_kind {g : Gc} (T : Txt g) : Df g 5 "is_kind" ["thing"] (sp1 okT fun x => .bool (isKind x)) := by
  refine df_of (k := 4) (i := i_is_kind) T.p_is_kind T.sy sc_is_kind ok_is_kind (fun _ _ _ _ _ _ us hl => match us, hl with | [_], _ => rfl) ?_ (fun Y ws M Q E F hE h => ?_)
  · exact sp1_len
  · obtain ⟨x, rfl, hx, h⟩ := h
    refine ⟨_, (ss_cons (s_if (QW.pt (w_or (t_not (t_val (q_isi F 1 2 isk_tuple T.n_isinstance T.n_tuple (by decide +kernel) (q_var F 0)))) (w_or (t_cmp (o_eq F) (q_var F 0) (q_tup a_nil)) (w_or1 (t_not (t_val (q_isi F 1 3 isk_str T.n_isinstance T.n_str (by decide +kernel) (q_ix (q_var F 0) q_int)))))))) (ss_one (s_ret q_bool)) ss_nil) (ss_cons (s_if (t_cmp (o_in F) (q_ix (q_var F 0) q_int) (q_tup (a_cons q_str (a_cons q_str a_nil)))) (ss_one (s_ret (q_and (q_cmp (o_eq F) (q_callB F 5 c_len T.n_len (by decide +kernel) (a_cons (q_var F 0) a_nil)) q_int) (q_one (q_call F 4 (d_are_options T) (a_cons (q_ix (q_var F 0) q_int) a_nil)))))) ss_nil) (ss_one (s_ret (q_and (q_cmp (o_eq F) (q_ix (q_var F 0) q_int) q_str) (q_one (q_call F 0 (d_is_count T) (a_cons (q_var F 0) a_nil)))))))), ?_⟩
    cases x with
    | tuple xs =>
      have no : isKind (.tuple xs) = false → Q (.d (.bool false)) M := fun e => qcast h e
      refine ⟨sm0, by simp [eqOk, isTup], ?_⟩
      match xs, hx, h, no with
      | [], _, _, no => exact bqc true (eqv_tup_nil (xs := [])) (no rfl)
      | t :: r, hx, h, no =>
        refine bqc false (eqv_tup_nil (xs := t :: r)) ⟨_, at0, ?_⟩
        cases t with
        | str t =>
          refine ⟨_, at0, sm2, in_lits hx, ?_⟩
          cases hi : inD (.str t) psD with
          | true =>
            refine bqc true (by first | exact hi | rfl) ?_
            match r, hx, h, no with
            | [], _, _, no => exact ⟨rfl, bqc false (by simp [PyData.eqv]) (no (by simp [isKind, hi]))⟩
            | y :: z :: l, _, _, no => exact ⟨rfl, bqc false (by simp [PyData.eqv]; omega) (no (by simp [isKind, hi]))⟩
            | [y], hx, h, no => exact ⟨rfl, bqc true (by simp [PyData.eqv]) ⟨_, at1, y, rfl, okT_mem hx (by simp), qcast h (by simp [isKind, hi])⟩⟩
          | false =>
            refine bqc false (by first | exact hi | rfl) ⟨_, at0, rfl, ?_⟩
            cases hc : PyData.eqv (.str t) (.str "count") with
            | false => exact bqc false (by first | exact hc | rfl) (no (by simp [isKind, hi, hc]))
            | true => exact bqc true (by first | exact hc | rfl) ⟨_, r, rfl, qcast h (by simp [isKind, hi, hc])⟩
        | _ => exact no rfl
    | _ => exact h
theorem count_not {t : Str} (h : PyData.eqv (.str t) (.str "count") = true) : inD (.str t) psD = false := by
  have e : t = "count" := by simpa [PyData.eqv] using h
  rw [e]
  decide +kernel
theorem inD_bools : ∀ bs : List Bool, inD (.bool false) (bs.map PyData.bool) = !bs.all id
  | [] => rfl
  | b :: bs => by
    have := inD_bools bs
    unfold inD at this ⊢
    rw [List.map_cons, List.any_cons, this]
    cases b <;> simp [PyData.eqv]
theorem bools_ok : ∀ bs : List Bool, PyData.canLayAll0 (bs.map PyData.bool) = true ∧ PyData.depthAll (bs.map PyData.bool) ≤ 1
  | [] => ⟨rfl, by decide⟩
  | b :: bs => by
    obtain ⟨h1, h2⟩ := bools_ok bs
    constructor
    · simp [PyData.canLayAll0, PyData.canLay0, h1]
    · simp only [List.map_cons, PyData.depthAll, PyData.depth]
      omega
end Ms
set_option Elab.async false
set_option linter.all false
set_option maxRecDepth 100000
namespace Ms
open PySem PySem.Spec PyProof.Rows L2 Dl
def ksP : List Str := ["is", "has", "from", "to"]
def ihD : List PyData := [.str "is", .str "has"]
def isPiece (t : Str) : List PyData → Bool
  | [n, y] => ksP.contains t && isName n && (if inD (.str t) ihD = true then isName y else isWithin y 0 1000000)
  | _ => false
theorem piece2 (t : Str) (n y : PyData) : isPiece t [n, y] = (ksP.contains t && isName n && (if inD (.str t) ihD = true then isName y else isWithin y 0 1000000)) := rfl
/-- a text is looked for among written ones -/
theorem in_lit {t : Str} {l : List PyData} (h : okT (.str t)) (h1 : PyData.canLayAll0 l = true) (h2 : PyData.depthAll l ≤ 64) : inOk (.str t) l = true := by
  unfold inOk
  rw [h1, show (PyData.str t).canLay0 = true from h.1]
  simp
  omega
def spPiece : SpD := fun ws M Q _ => ∃ t r, ws = [.d (.tuple (.str t :: r))] ∧ okT (.tuple (.str t :: r)) ∧ Q (.d (.bool (isPiece t r))) M
theorem spPiece_len : ∀ ws M Q E, spPiece ws M Q E → ws.length = 1 := by rintro _ _ _ _ ⟨t, r, rfl, _⟩; rfl
theorem d_is_piece {g : Gc} (T : Txt g) : Df g 4 "is_piece" ["thing"] spPiece := by
  refine df_of (k := 3) (i := i_is_piece) T.p_is_piece T.sy sc_is_piece ok_is_piece (fun _ _ _ _ _ _ us hl => match us, hl with | [_], _ => rfl) ?_ (fun Y ws M Q E F hE h => ?_)
  · exact spPiece_len
  · obtain ⟨t, r, rfl, hx, h⟩ := h
    refine ⟨_, (ss_cons (s_if (QW.pt (w_or (t_cmp (o_ne F) (q_callB F 3 c_len T.n_len (by decide +kernel) (a_cons (q_var F 0) a_nil)) q_int) (w_or (t_cmp (o_notInK F T.c_PIECES_conditions.choose_spec) (q_ix (q_var F 0) q_int) (q_ref F 1 T.c_PIECES_conditions.choose_spec)) (w_or1 (t_not (t_val (q_call F 2 (d_is_name T) (a_cons (q_ix (q_var F 0) q_int) a_nil)))))))) (ss_one (s_ret q_bool)) ss_nil) (ss_cons (s_if (t_cmp (o_in F) (q_ix (q_var F 0) q_int) (q_tup (a_cons q_str (a_cons q_str a_nil)))) (ss_one (s_ret (q_call F 2 (d_is_name T) (a_cons (q_ix (q_var F 0) q_int) a_nil)))) ss_nil) (ss_one (s_ret (q_call F 0 (d_is_number T) (a_cons (q_ix (q_var F 0) q_int) a_nil)))))), ?_⟩
    have no : isPiece t r = false → Q (.d (.bool false)) M := fun e => qcast h e
    match r, hx, h, no with
    | [], _, _, no => exact ⟨rfl, bqc true (by simp [PyData.eqv]) (no rfl)⟩
    | [a], _, _, no => exact ⟨rfl, bqc true (by simp [PyData.eqv]) (no rfl)⟩
    | a :: b :: c :: l, _, _, no => exact ⟨rfl, bqc true (by simp [PyData.eqv]; omega) (no rfl)⟩
    | [n, y], hx, h, no =>
      have ht : okT (.str t) := okT_mem hx (by simp)
      refine ⟨rfl, bqc false (by simp [PyData.eqv]) ⟨_, at0, rfl, ?_⟩⟩
      cases hk : ksP.contains t with
      | false => exact bqc true (by show (if true = true then !ksP.contains t else _) = true; rw [hk]; rfl) (no (by rw [piece2, hk]; rfl))
      | true =>
        refine bqc false (by show (if true = true then !ksP.contains t else _) = false; rw [hk]; rfl) ⟨_, at1, n, rfl, okT_mem hx (by simp), ?_⟩
        cases hn : isName n with
        | false => exact bqc false (by first | exact hn | rfl) (no (by rw [piece2, hk, hn]; rfl))
        | true =>
          refine bqc true (by first | exact hn | rfl) ⟨_, at0, sm2, in_lit ht (by decide +kernel) (by decide +kernel), ?_⟩
          cases hi : inD (.str t) ihD with
          | true => exact bqc true (by first | exact hi | rfl) ⟨_, at2, y, rfl, okT_mem hx (by simp), qcast h (by rw [piece2, hk, hn, hi]; rfl)⟩
          | false => exact bqc false (by first | exact hi | rfl) ⟨_, at2, y, rfl, trivial, qcast h (by rw [piece2, hk, hn, hi]; rfl)⟩
def joinD : List PyData := [.str "and", .str "or"]
def anyD : List PyData := [.str "any", .str "every"]
/-- how many all of them have, two to six -/
def sumP (f : PyData → Option Nat) (ps : List PyData) : Option Nat :=
  if (decide (2 ≤ ps.length) && decide (ps.length ≤ 6)) = true then (if (ps.all fun p => (f p).isSome) = true then some (ps.map fun p => (f p).getD 0).sum else none) else none
def joinP (f : PyData → Option Nat) : PyData → Option Nat
  | .tuple ps => sumP f ps
  | _ => none
def pcsRest (f : Bool → PyData → Option Nat) (w : Bool) (t : Str) : List PyData → Option Nat
  | [y] => if PyData.eqv (.str t) (.str "not") = true then f w y else if inD (.str t) joinD = true then joinP (f w) y else none
  | [n, y] => if (inD (.str t) anyD && isName n && !w) = true then f true y else none
  | _ => none
def pcsStep (f : Bool → PyData → Option Nat) (w : Bool) (t : Str) (r : List PyData) : Option Nat := if isPiece t r = true then some 1 else pcsRest f w t r
/-- how many pieces a condition has -/
def pcs : Nat → Bool → PyData → Option Nat
  | 0, _, _ => none
  | d + 1, w, x => match x with
    | .tuple (.str t :: r) => pcsStep (pcs d) w t r
    | _ => none
def optD : Option Nat → PyData
  | none => .none
  | some n => .int n
def partsP (d : Nat) (w : Bool) : PyData → Option Nat := joinP (pcs d w)
def spIn (n : Nat) : SpD := fun ws M Q _ => ∃ (x : PyData) (d : Nat) (w : Bool), ws = [.d x, .d (.int d), .d (.bool w)] ∧ d ≤ n ∧ okT x ∧ Q (.d (optD (pcs d w x))) M
def spParts (n : Nat) : SpD := fun ws M Q _ => ∃ (x : PyData) (d : Nat) (w : Bool), ws = [.d x, .d (.int d), .d (.bool w)] ∧ d ≤ n ∧ okT x ∧ Q (.d (optD (partsP d w x))) M
def spIn' : Nat → SpD | 0 => spNo | n + 1 => spIn n
def spParts' : Nat → SpD | 0 => spNo | n + 1 => spParts n
theorem spIn_len {n} : ∀ ws M Q E, spIn n ws M Q E → ws.length = 3 := by rintro _ _ _ _ ⟨x, d, w, rfl, _⟩; rfl
theorem spParts_len {n} : ∀ ws M Q E, spParts n ws M Q E → ws.length = 3 := by rintro _ _ _ _ ⟨x, d, w, rfl, _⟩; rfl
theorem ocast {Q : W → MH → Prop} {M : MH} {a b : Option Nat} (h : Q (.d (optD a)) M) (e : a = b) : Q (.d (optD b)) M := by rw [← e]; exact h
theorem opt_lay : ∀ l : List (Option Nat), PyData.canLayAll0 (l.map optD) = true ∧ PyData.depthAll (l.map optD) = 0
  | [] => ⟨rfl, rfl⟩
  | o :: l => by
    obtain ⟨h1, h2⟩ := opt_lay l
    cases o <;> exact ⟨by simp [PyData.canLayAll0, PyData.canLay0, optD, h1], by simp [PyData.depthAll, PyData.depth, optD, h2]⟩
theorem opt_in : ∀ l : List (Option Nat), inD .none (l.map optD) = !l.all (·.isSome)
  | [] => rfl
  | o :: l => by
    have := opt_in l
    unfold inD at this ⊢
    rw [List.map_cons, List.any_cons, this]
    cases o <;> simp [optD, PyData.eqv]
theorem opt_ints : ∀ l : List (Option Nat), l.all (·.isSome) = true → intsD (l.map optD) = some (l.map fun o => ((o.getD 0 : Nat) : Int))
  | [], _ => rfl
  | none :: l, h => by simp at h
  | some n :: l, h => by
    have := opt_ints l (by simpa using h)
    show (intsD (l.map optD)).map _ = _
    rw [this]
    rfl
theorem opt_sum : ∀ l : List (Option Nat), (l.map fun o => ((o.getD 0 : Nat) : Int)).sum = (((l.map fun o => o.getD 0).sum : Nat) : Int)
  | [] => rfl
  | o :: l => by
    rw [List.map_cons, List.map_cons, List.sum_cons, List.sum_cons, opt_sum l]
    omega
theorem parts_of {g : Gc} (T : Txt g) (n : Nat) (DI : Df g (5 + 2 * n) "pieces_in" ["thing", "deep", "within"] (spIn n)) : Df g (5 + 2 * n + 1) "pieces_of_parts" ["parts", "deep", "within"] (spParts n) := by
  refine df_of (k := 5 + 2 * n) (i := i_pieces_of_parts) T.p_pieces_of_parts T.sy sc_pieces_of_parts ok_pieces_of_parts (fun _ _ _ _ _ _ us hl => match us, hl with | [_, _, _], _ => rfl) spParts_len (fun Y ws M Q E F hE h => ?_)
  obtain ⟨x, d, w, rfl, hd, hx, h⟩ := h
  refine ⟨_, (ss_cons (s_if (QW.pt (w_or (t_not (t_val (q_isi F 1 2 isk_tuple T.n_isinstance T.n_tuple (by decide +kernel) (q_var F 0)))) (w_or1 (t_not (t_chn o_le o_le q_int (q_callB F 4 c_len T.n_len (by decide +kernel) (a_cons (q_var F 0) a_nil)) (q_cst F 3 T.c_MOST_PARTS)))))) (ss_one (s_ret q_none)) ss_nil) (ss_cons (s_setlc (own := [("part", 4)]) F 3 ⟨_, ["parts", "deep", "within", "found", "part"], [4, 1, 2], [4], [], ["pieces_in"], false, true⟩ (.one 4) ⟨rfl, rfl, ⟨rfl, by decide +kernel, by decide +kernel, by decide +kernel, by decide +kernel⟩, by decide +kernel, by decide +kernel, rfl, rfl⟩ (by decide) (i_tup (q_var F 0)) (fun _ F hw => ⟨(pgN F 4), ts_nil, (q_callW hw F 0 DI (a_cons (q_var F 4) (a_cons (q_var F 1) (a_cons (q_var F 2) a_nil))))⟩)) (ss_one (s_ret (q_ite (t_cmp (o_in F) q_none (q_var F 3)) q_none (q_callB F 0 (c_sum F) T.n_sum (by decide +kernel) (a_cons (q_var F 3) a_nil))))))), ?_⟩
  cases x with
  | tuple ps =>
    have no : sumP (pcs d w) ps = none → Q (.d .none) M := fun e => ocast h e
    by_cases h1 : (2 : Int) ≤ (ps.length : Int)
    case neg =>
      refine ifD (fun c => absurd c h1) (fun _ => ?_)
      exact no (by unfold sumP; rw [if_neg]; simp; omega)
    refine ifD (fun _ => ?_) (fun c => absurd h1 c)
    dsimp only [tK, rInt0, k_MOST_PARTS]
    by_cases h2 : (ps.length : Int) ≤ 6
    case neg =>
      refine bqc false (decide_eq_false h2) ?_
      exact no (by unfold sumP; rw [if_neg]; simp; omega)
    refine bqc true (decide_eq_true h2) ?_
    refine lcA (T := .one 4) (fun v => match v with | .d p => optD (pcs d w p) | _ => .none) ?_ (fun _ _ _ => trivial) ?_ ?_
    · simpa using okT_len hx
    · intro v hv M2 _ R r
      obtain ⟨p, hp, rfl⟩ := List.mem_map.mp hv
      exact ⟨p, d, w, rfl, hd, okT_mem hx hp, r⟩
    · have e : (ps.map W.d).map (fun v => match v with | .d p => optD (pcs d w p) | _ => .none) = (ps.map (pcs d w)).map optD := by
        rw [List.map_map, List.map_map]
        rfl
      rw [e]
      obtain ⟨b1, b2⟩ := opt_lay (ps.map (pcs d w))
      have two : (decide (2 ≤ ps.length) && decide (ps.length ≤ 6)) = true := by simp; omega
      have al : (ps.map (pcs d w)).all (·.isSome) = ps.all fun p => (pcs d w p).isSome := by rw [List.all_map]; rfl
      refine ⟨by unfold inOk; rw [b1, b2]; simp [PyData.canLay0, PyData.depth], ?_⟩
      have ei := opt_in (ps.map (pcs d w))
      cases ha : (ps.map (pcs d w)).all (·.isSome) with
      | false =>
        rw [ha] at ei
        refine bqc true (by show (if false = true then _ else inD .none _) = true; rw [ei]; rfl) ?_
        exact no (by unfold sumP; rw [if_pos two, ← al, ha]; rfl)
      | true =>
        rw [ha] at ei
        refine bqc false (by show (if false = true then _ else inD .none _) = false; rw [ei]; rfl) ?_
        show (match intsD ((ps.map (pcs d w)).map optD) with | some ns => Q (.d (.int ns.sum)) M | none => False)
        rw [opt_ints _ ha]
        show Q (.d (.int _)) M
        rw [opt_sum]
        have z : sumP (pcs d w) ps = some (((ps.map (pcs d w)).map fun o => o.getD 0).sum) := by
          unfold sumP
          rw [if_pos two, ← al, ha, List.map_map]
          rfl
        exact ocast h z
  | _ => exact h
theorem in_of {g : Gc} (T : Txt g) (n m1 m2 : Nat) (l1 : m1 ≤ 4 + 2 * n) (l2 : m2 ≤ 4 + 2 * n) (DI : Df g m1 "pieces_in" ["thing", "deep", "within"] (spIn' n)) (DP : Df g m2 "pieces_of_parts" ["parts", "deep", "within"] (spParts' n)) : Df g (4 + 2 * n + 1) "pieces_in" ["thing", "deep", "within"] (spIn n) := by
  refine df_of (k := 4 + 2 * n) (i := i_pieces_in) T.p_pieces_in T.sy sc_pieces_in ok_pieces_in (fun _ _ _ _ _ _ us hl => match us, hl with | [_, _, _], _ => rfl) spIn_len (fun Y ws M Q E F hE h => ?_)
  obtain ⟨x, d, w, rfl, hd, hx, h⟩ := h
  refine ⟨_, (ss_cons (s_if (QW.pt (w_or (t_cmp o_lt (q_var F 1) q_int) (w_or (t_not (t_val (q_isi F 4 5 isk_tuple T.n_isinstance T.n_tuple (by decide +kernel) (q_var F 0)))) (w_or (t_cmp (o_eq F) (q_var F 0) (q_tup a_nil)) (w_or1 (t_not (t_val (q_isi F 4 6 isk_str T.n_isinstance T.n_str (by decide +kernel) (q_ix (q_var F 0) q_int))))))))) (ss_one (s_ret q_none)) ss_nil) (ss_cons (s_if (t_val (q_call F 0 (d_is_piece T) (a_cons (q_var F 0) a_nil))) (ss_one (s_ret q_int)) ss_nil) (ss_cons (s_if (QW.pt (w_and (t_cmp (o_eq F) (q_ix (q_var F 0) q_int) q_str) (w_and1 (t_cmp (o_eq F) (q_callB F 7 c_len T.n_len (by decide +kernel) (a_cons (q_var F 0) a_nil)) q_int)))) (ss_one (s_ret (q_call F 1 DI (a_cons (q_ix (q_var F 0) q_int) (a_cons (q_bin o_sub (q_var F 1) q_int) (a_cons (q_var F 2) a_nil)))))) ss_nil) (ss_cons (s_if (QW.pt (w_and (t_cmp (o_in F) (q_ix (q_var F 0) q_int) (q_tup (a_cons q_str (a_cons q_str a_nil)))) (w_and1 (t_cmp (o_eq F) (q_callB F 7 c_len T.n_len (by decide +kernel) (a_cons (q_var F 0) a_nil)) q_int)))) (ss_one (s_ret (q_call F 2 DP (a_cons (q_ix (q_var F 0) q_int) (a_cons (q_bin o_sub (q_var F 1) q_int) (a_cons (q_var F 2) a_nil)))))) ss_nil) (ss_cons (s_if (QW.pt (w_and (t_cmp (o_in F) (q_ix (q_var F 0) q_int) (q_tup (a_cons q_str (a_cons q_str a_nil)))) (w_and (t_cmp (o_eq F) (q_callB F 7 c_len T.n_len (by decide +kernel) (a_cons (q_var F 0) a_nil)) q_int) (w_and (t_val (q_call F 3 (d_is_name T) (a_cons (q_ix (q_var F 0) q_int) a_nil))) (w_and1 (t_not (t_val (q_var F 2)))))))) (ss_one (s_ret (q_call F 1 DI (a_cons (q_ix (q_var F 0) q_int) (a_cons (q_bin o_sub (q_var F 1) q_int) (a_cons q_bool a_nil)))))) ss_nil) (ss_one (s_ret q_none))))))), ?_⟩
  cases d with
  | zero =>
    exact h
  | succ d =>
    have no : pcs (d + 1) w x = none → Q (.d .none) M := fun e => ocast h e
    obtain ⟨n, rfl⟩ : ∃ n', n = n' + 1 := ⟨n - 1, by omega⟩
    generalize hde : ((d + 1 : Nat) : Int) = de
    refine ifD (fun c => ?_) (fun _ => ?_)
    · exact absurd (show de < 1 from c) (by omega)
    cases x with
    | tuple xs =>
      refine ⟨sm0, by simp [eqOk, isTup], ?_⟩
      match xs, hx, h, no with
      | [], _, _, no => exact bqc true (eqv_tup_nil (xs := [])) (no rfl)
      | t :: r, hx, h, no =>
        refine bqc false (eqv_tup_nil (xs := t :: r)) ⟨_, at0, ?_⟩
        cases t with
        | str t =>
          refine ⟨t, r, rfl, hx, ?_⟩
          cases hp : isPiece t r with
          | true => exact bqc true (by first | exact hp | rfl) (show Q (.d (.int 1)) M from ocast h (show pcsStep (pcs d) w t r = some 1 by unfold pcsStep; rw [if_pos hp]))
          | false =>
            have ht : okT (.str t) := okT_mem hx List.mem_cons_self
            have ps : pcs (d + 1) w (.tuple (.str t :: r)) = pcsRest (pcs d) w t r := by
              show pcsStep (pcs d) w t r = _
              unfold pcsStep
              rw [if_neg (by rw [hp]; exact Bool.false_ne_true)]
            rw [ps] at no
            have h : Q (.d (optD (pcsRest (pcs d) w t r))) M := ocast h ps
            clear ps
            refine bqc false (by first | exact hp | rfl) ?_
            have j1 : inOk (.str t) joinD = true := in_lit ht (by decide +kernel) (by decide +kernel)
            have j2 : inOk (.str t) anyD = true := in_lit ht (by decide +kernel) (by decide +kernel)
            rw [if_neg Bool.false_ne_true]
            dsimp only [tNxt]
            refine sq_cut (fun σ M' => σ = [some (.d (.tuple (.str t :: r))), some (.d (.int de)), some (.d (.bool w))] ∧ M = M' ∧ ∀ y, r = [y] → PyData.eqv (.str t) (.str "not") = false) (fun N hN => ?_) ?_
            · refine ⟨_, at0, rfl, ?_⟩
              cases hn : PyData.eqv (.str t) (.str "not") with
              | false => exact bqc false (by first | exact hn | rfl) (hN _ _ ⟨rfl, rfl, fun _ _ => hn⟩)
              | true =>
                refine bqc true (by first | exact hn | rfl) ?_
                rcases r with _ | ⟨y, _ | ⟨z, l⟩⟩
                · exact ⟨rfl, bqc false (by simp [PyData.eqv]) (hN _ _ ⟨rfl, rfl, fun y e => by cases e⟩)⟩
                · refine ⟨rfl, bqc true (by simp [PyData.eqv]) ⟨_, at1, y, d, w, ?_, by omega, okT_mem hx (by simp), ocast h ?_⟩⟩
                  · show [W.d y, .d (.int (de - 1)), .d (.bool w)] = _
                    rw [show de - 1 = (d : Int) by omega]
                  · show (if PyData.eqv (.str t) (.str "not") = true then pcs d w y else _) = _
                    rw [if_pos hn]
                · exact ⟨rfl, bqc false (by simp [PyData.eqv]; omega) (hN _ _ ⟨rfl, rfl, fun y e => by cases e⟩)⟩
            · rintro _ _ ⟨rfl, rfl, q1⟩
              refine sq_cut (fun σ M' => σ = [some (.d (.tuple (.str t :: r))), some (.d (.int de)), some (.d (.bool w))] ∧ M = M' ∧ ∀ y, r = [y] → pcsRest (pcs d) w t [y] = none) (fun N hN => ?_) ?_
              · refine ⟨_, at0, sm2, j1, ?_⟩
                cases hj : inD (.str t) joinD with
                | false =>
                  refine bqc false (by first | exact hj | rfl) (hN _ _ ⟨rfl, rfl, fun y e => ?_⟩)
                  show (if PyData.eqv (.str t) (.str "not") = true then _ else if inD (.str t) joinD = true then _ else none) = none
                  rw [q1 y e, hj]
                  first | done | rfl
                | true =>
                  refine bqc true (by first | exact hj | rfl) ?_
                  rcases r with _ | ⟨y, _ | ⟨z, l⟩⟩
                  · exact ⟨rfl, bqc false (by simp [PyData.eqv]) (hN _ _ ⟨rfl, rfl, fun y e => by cases e⟩)⟩
                  · refine ⟨rfl, bqc true (by simp [PyData.eqv]) ⟨_, at1, y, d, w, ?_, by omega, okT_mem hx (by simp), ocast h ?_⟩⟩
                    · show [W.d y, .d (.int (de - 1)), .d (.bool w)] = _
                      rw [show de - 1 = (d : Int) by omega]
                    · show (if PyData.eqv (.str t) (.str "not") = true then pcs d w y else if inD (.str t) joinD = true then joinP (pcs d w) y else none) = _
                      rw [q1 y rfl, hj]
                      first | done | rfl
                  · exact ⟨rfl, bqc false (by simp [PyData.eqv]; omega) (hN _ _ ⟨rfl, rfl, fun y e => by cases e⟩)⟩
              · rintro _ _ ⟨rfl, rfl, q2⟩
                refine ⟨_, at0, sm2, j2, ?_⟩
                cases hy : inD (.str t) anyD with
                | false =>
                  refine bqc false (by first | exact hy | rfl) (no ?_)
                  rcases r with _ | ⟨y, _ | ⟨z, _ | ⟨u, l⟩⟩⟩
                  · rfl
                  · exact q2 y rfl
                  · show (if (inD (.str t) anyD && isName y && !w) = true then _ else none) = none
                    rw [hy]
                    rfl
                  · rfl
                | true =>
                  refine bqc true (by first | exact hy | rfl) ?_
                  rcases r with _ | ⟨y, _ | ⟨z, _ | ⟨u, l⟩⟩⟩
                  · exact ⟨rfl, bqc false (by simp [PyData.eqv]) (no rfl)⟩
                  · exact ⟨rfl, bqc false (by simp [PyData.eqv]) (no (q2 y rfl))⟩
                  · refine ⟨rfl, bqc true (by simp [PyData.eqv]) ⟨_, at1, y, rfl, okT_mem hx (by simp), ?_⟩⟩
                    have rs : pcsRest (pcs d) w t [y, z] = if (inD (.str t) anyD && isName y && !w) = true then pcs d true z else none := rfl
                    cases hm : isName y with
                    | false => exact bqc false (by first | exact hm | rfl) (no (by rw [rs, hy, hm]; rfl))
                    | true =>
                      refine bqc true (by first | exact hm | rfl) ?_
                      cases w with
                      | true => exact no (by rw [rs, hy, hm]; rfl)
                      | false =>
                        refine ⟨_, at2, z, d, true, ?_, by omega, okT_mem hx (by simp), ocast h ?_⟩
                        · show [W.d z, .d (.int (de - 1)), .d (.bool true)] = _
                          rw [show de - 1 = (d : Int) by omega]
                        · rw [rs, hy, hm]
                          rfl
                  · exact ⟨rfl, bqc false (by simp [PyData.eqv]; omega) (no rfl)⟩
        | _ => exact no rfl
    | _ => exact no rfl
theorem no_in {g : Gc} (T : Txt g) : Df g 1 "pieces_in" ["thing", "deep", "within"] (spIn' 0) := df_of (k := 0) (i := i_pieces_in) T.p_pieces_in T.sy sc_pieces_in ok_pieces_in (fun _ _ _ _ _ _ us hl => match us, hl with | [_, _, _], _ => rfl) (fun _ _ _ _ (h : False) => h.elim) (fun _ _ _ _ _ _ _ (h : False) => h.elim)
theorem no_parts {g : Gc} (T : Txt g) : Df g 1 "pieces_of_parts" ["parts", "deep", "within"] (spParts' 0) := df_of (k := 0) (i := i_pieces_of_parts) T.p_pieces_of_parts T.sy sc_pieces_of_parts ok_pieces_of_parts (fun _ _ _ _ _ _ us hl => match us, hl with | [_, _, _], _ => rfl) (fun _ _ _ _ (h : False) => h.elim) (fun _ _ _ _ _ _ _ (h : False) => h.elim)
theorem d_both {g : Gc} (T : Txt g) : ∀ n : Nat, Df g (5 + 2 * n) "pieces_in" ["thing", "deep", "within"] (spIn n) ∧ Df g (5 + 2 * n + 1) "pieces_of_parts" ["parts", "deep", "within"] (spParts n)
  | 0 => by
    have a := in_of T 0 1 1 (by omega) (by omega) (no_in T) (no_parts T)
    exact ⟨a, parts_of T 0 a⟩
  | n + 1 => by
    obtain ⟨i1, i2⟩ := d_both T n
    have a := in_of T (n + 1) (5 + 2 * n) (5 + 2 * n + 1) (by omega) (by omega) i1 i2
    have a' : Df g (5 + 2 * (n + 1)) "pieces_in" ["thing", "deep", "within"] (spIn (n + 1)) := by
      rw [show 5 + 2 * (n + 1) = 4 + 2 * (n + 1) + 1 by omega]
      exact a
    exact ⟨a', parts_of T (n + 1) a'⟩
def condO : Option Nat → Bool
  | some n => decide ((n : Int) ≤ 30)
  | none => false
/-- a condition: thirty pieces at most, six deep at most -/
def isCond (x : PyData) : Bool := condO (pcs 6 false x)
theorem d_is_condition {g : Gc} (T : Txt g) : Df g 18 "is_condition" ["thing"] (sp1 okT fun x => .bool (isCond x)) := by
  refine df_of (k := 17) (i := i_is_condition) T.p_is_condition T.sy sc_is_condition ok_is_condition (fun _ _ _ _ _ _ us hl => match us, hl with | [_], _ => rfl) ?_ (fun Y ws M Q E F hE h => ?_)
  · exact sp1_len
  · obtain ⟨x, rfl, hx, h⟩ := h
    refine ⟨_, (ss_cons (s_set (q_call F 0 (d_both T 6).1 (a_cons (q_var F 0) (a_cons (q_cst F 1 T.c_MOST_DEEP_conditions) (a_cons q_bool a_nil)))) (g_name F 1)) (ss_one (s_ret (q_and (q_cmp o_isNot (q_var F 1) q_none) (q_one (q_cmp o_le (q_var F 1) (q_cst F 2 T.c_MOST_PIECES))))))), ?_⟩
    have h : Q (.d (.bool (condO (pcs 6 false x)))) M := h
    refine ⟨x, 6, false, rfl, Nat.le_refl _, hx, ?_⟩
    cases hp : pcs 6 false x with
    | none =>
      rw [hp] at h
      exact h
    | some n =>
      rw [hp] at h
      exact h
end Ms
set_option Elab.async false
set_option linter.all false
set_option maxRecDepth 100000
namespace Ms
open PySem PySem.Spec PyProof.Rows L2 Dl
abbrev B1 : Nat := 2 ^ 140
/-- options: names, each once -/
structure Opts (zs : List Str) : Prop where
  a : 1 ≤ zs.length
  b : zs.length ≤ 6
  n : zs.Nodup
  nm : ∀ z ∈ zs, isNameS z = true
theorem name_lay {z : Str} (h : isNameS z = true) : PyData.strOk z = true := by
  simp only [isNameS, Bool.and_eq_true] at h
  simp only [PyData.strOk, Array.all_eq_true]
  intro i hi
  have := List.all_eq_true.mp h.2 z.cps[i] (by simp)
  simp only [isLow, Bool.and_eq_true, decide_eq_true_eq] at this
  simp
  omega
theorem name_len {z : Str} (h : isNameS z = true) : z.length ≤ 8 := by
  simp only [isNameS, Bool.and_eq_true, decide_eq_true_eq] at h
  exact h.1.1.2
theorem strs_lay : ∀ {zs : List Str}, (∀ z ∈ zs, PyData.strOk z = true) → PyData.canLayAll0 (zs.map PyData.str) = true ∧ PyData.depthAll (zs.map PyData.str) = 0
  | [], _ => ⟨rfl, rfl⟩
  | z :: zs, h => by
    obtain ⟨h1, h2⟩ := strs_lay (zs := zs) fun x hx => h x (List.mem_cons_of_mem _ hx)
    constructor
    · simp only [List.map_cons, PyData.canLayAll0, PyData.canLay0, Bool.and_eq_true]
      exact ⟨h z List.mem_cons_self, h1⟩
    · simp [PyData.depthAll, PyData.depth, h2]
theorem in_strs {z : Str} {zs : List Str} (h : ∀ x ∈ zs, PyData.strOk x = true) (hz : PyData.strOk z = true) : inOk (.str z) (zs.map PyData.str) = true := by
  obtain ⟨h1, h2⟩ := strs_lay h
  unfold inOk
  rw [h1, h2, show (PyData.str z).canLay0 = true from hz]
  simp
theorem inD_strs (z : Str) : ∀ zs : List Str, inD (.str z) (zs.map PyData.str) = decide (z ∈ zs)
  | [] => by simp [inD]
  | x :: zs => by
    have := inD_strs z zs
    unfold inD at this ⊢
    rw [List.map_cons, List.any_cons, this]
    by_cases e : x = z
    · subst e; simp [PyData.eqv]
    · have e' : z ≠ x := fun q => e q.symm
      simp [PyData.eqv, e, e']
theorem met_nodup {zs : List Str} (h : zs.Nodup) : Ds.met zs = zs := by
  have : ∀ (acc l : List Str), (acc ++ l).Nodup → l.foldl step_dedup acc = acc ++ l := by
    intro acc l
    induction l generalizing acc with
    | nil => intro _; simp
    | cons x l ih =>
      intro hn
      have hx : x ∉ acc := by
        intro hm
        rw [List.nodup_append] at hn
        exact hn.2.2 x hm x List.mem_cons_self rfl
      have e : step_dedup acc x = acc ++ [x] := by
        unfold step_dedup
        rw [if_neg]
        intro q
        obtain ⟨y, hy, ey⟩ := List.any_eq_true.mp q
        exact hx (eq_of_beq ey ▸ hy)
      rw [List.foldl_cons, e, ih (acc ++ [x]) (by simpa using hn)]
      simp
  exact this [] zs (by simpa using h)
theorem opts_is {zs : List Str} (h : Opts zs) : isOpts (.tuple (zs.map PyData.str)) = true := by
  have h1 : (zs.map PyData.str).all isName = true := by
    rw [List.all_map, List.all_eq_true]
    exact fun z hz => h.nm z hz
  simp only [isOpts, dist, strsD_map, met_nodup h.n, h1, List.length_map]
  simp [h.a, h.b]

def ftD : List PyData := [.str "from", .str "to"]
def nao : List PyData := [.str "not", .str "and", .str "or"]
theorem t_in {t : Str} {zs : List Str} (h : inD (.str t) (zs.map PyData.str) = true) : t ∈ zs := by
  rw [inD_strs] at h
  exact of_decide_eq_true h
theorem ih_is {t : Str} (h : inD (.str t) ihD = true) : t = "is" ∨ t = "has" := by simpa using t_in (zs := ["is", "has"]) h
theorem ft_is {t : Str} (h : inD (.str t) ftD = true) : t = "from" ∨ t = "to" := by simpa using t_in (zs := ["from", "to"]) h
theorem ih_ks {t : Str} (h : inD (.str t) ihD = true) : ksP.contains t = true := by rcases ih_is h with rfl | rfl <;> decide +kernel
theorem ft_ks {t : Str} (h : inD (.str t) ftD = true) : ksP.contains t = true := by rcases ft_is h with rfl | rfl <;> decide +kernel
theorem ih_any {t : Str} (h : inD (.str t) ihD = true) : inD (.str t) anyD = false := by rcases ih_is h with rfl | rfl <;> decide +kernel

structure KindX (x : PyData) : Prop where
  k : isKind x = true
  f : Fn B1 500 2 x
  l : x.canLay0 = true
  t : ∃ xs, x = .tuple xs ∧ xs ≠ []
theorem opts_fn {zs : List Str} (h : Opts zs) : FnA B1 54 0 (zs.map PyData.str) ∧ PyData.canLayAll0 (zs.map PyData.str) = true := by
  have h1 := h.b
  have h2 := h.nm
  have hl := strs_lay fun z hz => name_lay (h2 z hz)
  refine ⟨⟨?_, ?_, by rw [hl.2]; exact Nat.le_refl _⟩, hl.1⟩
  · rw [okLA_iff]
    intro x hx
    obtain ⟨z, hz, rfl⟩ := List.mem_map.mp hx
    exact name_lay (h2 z hz)
  · have : ∀ l : List Str, (∀ z ∈ l, isNameS z = true) → PyData.weightAll (l.map PyData.str) ≤ 9 * l.length := by
      intro l
      induction l with
      | nil => intro _; exact Nat.le_refl _
      | cons z l ih =>
        intro hh
        have a := name_len (hh z List.mem_cons_self)
        have b := ih fun x hx => hh x (List.mem_cons_of_mem _ hx)
        have a' : z.cps.size ≤ 8 := a
        simp only [List.map_cons, PyData.weightAll, PyData.weight, List.length_cons]
        omega
    have := this zs h2
    omega
theorem kind_opts {t : Str} {zs : List Str} (ht : t = "pick" ∨ t = "some") (h : Opts zs) : KindX (.tuple [.str t, .tuple (zs.map PyData.str)]) := by
  obtain ⟨f, l⟩ := opts_fn h
  have hi : inD (.str t) psD = true := by rcases ht with rfl | rfl <;> decide +kernel
  have ot : PyData.strOk t = true := by rcases ht with rfl | rfl <;> decide +kernel
  have lt : t.length = 4 := by rcases ht with rfl | rfl <;> decide +kernel
  refine ⟨by simp [isKind, hi, opts_is h], ?_, ?_, _, rfl, by simp⟩
  · have a : Fn B1 4 1 (.str t) := Fn.strW ot (by omega)
    have z := ((FnA.one a).app (FnA.one f.tup)).tup
    exact z.mono (Nat.le_refl _) (by decide) (Nat.le_refl _)
  · simp only [PyData.canLay0, PyData.canLayAll0, Bool.and_true, Bool.and_eq_true]
    exact ⟨ot, l⟩
theorem b1_of {x : Int} (h0 : 0 ≤ x) (h1 : x ≤ 1000000) : x.natAbs < B1 := by
  have : (1000001 : Nat) ≤ B1 := by decide
  omega
theorem kind_count {x y : Int} (x0 : 0 ≤ x) (x1 : x ≤ 1000000) (y0 : 0 ≤ y) (y1 : y ≤ 1000000) : KindX (.tuple [.str "count", .int (min x y), .int (max x y)]) := by
  have hi : inD (.str "count") psD = false := by decide +kernel
  have hc : PyData.eqv (.str "count") (.str "count") = true := by decide +kernel
  refine ⟨?_, ?_, by simp only [PyData.canLay0, PyData.canLayAll0, Bool.and_true]; decide +kernel, _, rfl, by simp⟩
  · simp [isKind, hi, hc, cnt]
    omega
  · have a : Fn B1 5 1 (.str "count") := Fn.strW (by decide +kernel) (by decide +kernel)
    have i1 : Fn B1 198 1 (.int (min x y)) := Fn.int (b1_of (by omega) (by omega)) (by decide) (Nat.le_refl _)
    have i2 : Fn B1 198 1 (.int (max x y)) := Fn.int (b1_of (by omega) (by omega)) (by decide) (Nat.le_refl _)
    have z := (((FnA.one a).app (FnA.one i1)).app (FnA.one i2)).tup
    exact z.mono (Nat.le_refl _) (by decide) (Nat.le_refl _)


theorem name_sok {z : Str} (h : isNameS z = true) : PyData.strOk z = true := by
  simp only [isNameS, Bool.and_eq_true] at h
  simp only [PyData.strOk, Array.all_eq_true]
  intro i hi
  have := List.all_eq_true.mp h.2 z.cps[i] (by simp)
  simp only [isLow, Bool.and_eq_true, decide_eq_true_eq] at this
  simp
  omega
theorem name_len8 {z : Str} (h : isNameS z = true) : z.length ≤ 8 := by
  simp only [isNameS, Bool.and_eq_true, decide_eq_true_eq] at h
  exact h.1.1.2

/-- a piece drawn -/
structure PieceX (x : PyData) : Prop where
  p : ∃ t n y, x = .tuple [.str t, n, y] ∧ isPiece t [n, y] = true
  f : Fn B1 250 1 x
  l : x.canLay0 = true
theorem b1_ofN {x : Int} (h0 : 0 ≤ x) (h1 : x ≤ 1000000) : x.natAbs < B1 := by
  have : (1000001 : Nat) ≤ B1 := by decide
  omega
theorem piece_is {t z : Str} {y : PyData} (hz : isNameS z = true) (ht : (inD (.str t) ihD = true ∧ ∃ u, y = .str u ∧ isNameS u = true) ∨ (inD (.str t) ftD = true ∧ ∃ n : Int, y = .int n ∧ 0 ≤ n ∧ n ≤ 1000000)) : PieceX (.tuple [.str t, .str z, y]) := by
  have t4 : PyData.strOk t = true ∧ t.length ≤ 4 := by
    rcases ht with ⟨h, _⟩ | ⟨h, _⟩
    · rcases ih_is h with rfl | rfl <;> exact ⟨by decide +kernel, by decide +kernel⟩
    · rcases ft_is h with rfl | rfl <;> exact ⟨by decide +kernel, by decide +kernel⟩
  have a1 : Fn B1 4 0 (.str t) := Fn.strW t4.1 t4.2
  have a2 : Fn B1 8 0 (.str z) := Fn.strW (name_sok hz) (name_len8 hz)
  rcases ht with ⟨h, u, rfl, hu⟩ | ⟨h, n, rfl, n0, n1⟩
  · have a3 : Fn B1 8 0 (.str u) := Fn.strW (name_sok hu) (name_len8 hu)
    refine ⟨⟨t, _, _, rfl, ?_⟩, (((FnA.one a1).app (FnA.one a2)).app (FnA.one a3)).tup.mono (Nat.le_refl _) (by decide) (Nat.le_refl _), ?_⟩
    · rw [piece2, ih_ks h, h]
      show (true && isNameS z && isNameS u) = true
      rw [hz, hu]
      rfl
    · simp only [PyData.canLay0, PyData.canLayAll0, Bool.and_eq_true]
      exact ⟨t4.1, name_sok hz, name_sok hu, trivial⟩
  · have a3 : Fn B1 198 0 (.int n) := Fn.int (b1_ofN n0 n1) (by decide) (Nat.le_refl _)
    refine ⟨⟨t, _, _, rfl, ?_⟩, (((FnA.one a1).app (FnA.one a2)).app (FnA.one a3)).tup.mono (Nat.le_refl _) (by decide) (Nat.le_refl _), ?_⟩
    · have nh : inD (.str t) ihD = false := by rcases ft_is h with rfl | rfl <;> decide +kernel
      rw [piece2, ft_ks h, nh]
      show (true && isNameS z && isWithin (.int n) 0 1000000) = true
      rw [hz]
      simp [isWithin, n0, n1]
    · simp only [PyData.canLay0, PyData.canLayAll0, Bool.and_eq_true]
      exact ⟨t4.1, name_sok hz, trivial, trivial⟩

/-- a condition drawn: so deep, of so many pieces -/
structure CondX (d u : Nat) (w : Bool) (x : PyData) : Prop where
  p : ∀ e, pcs (d + e) w x = some u
  f : Fn B1 (u * (250 + 30 * d)) (2 * d) x
  l : x.canLay0 = true
theorem cond_piece {x : PyData} (h : PieceX x) (d : Nat) (w : Bool) : CondX (d + 1) 1 w x := by
  obtain ⟨t, n, y, rfl, hp⟩ := h.p
  refine ⟨fun e => ?_, h.f.mono (Nat.le_refl _) (by omega) (by omega), h.l⟩
  rw [show d + 1 + e = (d + e) + 1 by omega]
  show pcsStep (pcs (d + e)) w t [n, y] = _
  unfold pcsStep
  rw [if_pos hp]
theorem sok_and {t : Str} (h : inD (.str t) joinD = true) : PyData.strOk t = true ∧ t.length ≤ 3 := by
  have := t_in (zs := ["and", "or"]) h
  simp only [List.mem_cons, List.not_mem_nil, or_false] at this
  rcases this with rfl | rfl <;> exact ⟨by decide +kernel, by decide +kernel⟩
theorem sok_any {t : Str} (h : inD (.str t) anyD = true) : PyData.strOk t = true ∧ t.length ≤ 5 := by
  have := t_in (zs := ["any", "every"]) h
  simp only [List.mem_cons, List.not_mem_nil, or_false] at this
  rcases this with rfl | rfl <;> exact ⟨by decide +kernel, by decide +kernel⟩
theorem cond_not {d u : Nat} {w : Bool} {x : PyData} (h : CondX d u w x) (hu : 1 ≤ u) : CondX (d + 1) u w (.tuple [.str "not", x]) := by
  have a : Fn B1 3 0 (.str "not") := Fn.strW (by decide +kernel) (by decide +kernel)
  refine ⟨fun e => ?_, ((FnA.one (a.mono (Nat.le_refl _) (Nat.le_refl _) (Nat.zero_le _))).app (FnA.one h.f)).tup.mono (Nat.le_refl _) ?_ (by omega), ?_⟩
  · rw [show d + 1 + e = (d + e) + 1 by omega]
    exact h.p e
  · rw [show u * (250 + 30 * (d + 1)) = u * (250 + 30 * d) + 30 * u by rw [show 250 + 30 * (d + 1) = (250 + 30 * d) + 30 by omega, Nat.mul_add]; omega]
    omega
  · simp only [PyData.canLay0, PyData.canLayAll0, Bool.and_eq_true]
    exact ⟨a.o, h.l, trivial⟩
theorem cond_any {d u : Nat} {x : PyData} {t z : Str} (ht : inD (.str t) anyD = true) (hz : isNameS z = true) (h : CondX d u true x) (hu : 1 ≤ u) : CondX (d + 1) u false (.tuple [.str t, .str z, x]) := by
  obtain ⟨t1, t2⟩ := sok_any ht
  have a : Fn B1 5 0 (.str t) := Fn.strW t1 t2
  have b : Fn B1 8 0 (.str z) := Fn.strW (name_sok hz) (name_len8 hz)
  refine ⟨fun e => ?_, (((FnA.one (a.mono (Nat.le_refl _) (Nat.le_refl _) (Nat.zero_le _))).app (FnA.one (b.mono (Nat.le_refl _) (Nat.le_refl _) (Nat.zero_le _)))).app (FnA.one h.f)).tup.mono (Nat.le_refl _) ?_ (by omega), ?_⟩
  · rw [show d + 1 + e = (d + e) + 1 by omega]
    have k : ksP.contains t = false := by
      have := t_in (zs := ["any", "every"]) ht
      simp only [List.mem_cons, List.not_mem_nil, or_false] at this
      rcases this with rfl | rfl <;> decide +kernel
    show pcsStep (pcs (d + e)) false t [.str z, x] = _
    unfold pcsStep
    rw [piece2, k]
    show (if (inD (.str t) anyD && isNameS z && !false) = true then pcs (d + e) true x else none) = _
    rw [ht, hz]
    exact h.p e
  · rw [show u * (250 + 30 * (d + 1)) = u * (250 + 30 * d) + 30 * u by rw [show 250 + 30 * (d + 1) = (250 + 30 * d) + 30 by omega, Nat.mul_add]; omega]
    omega
  · simp only [PyData.canLay0, PyData.canLayAll0, Bool.and_eq_true]
    exact ⟨t1, name_sok hz, h.l, trivial⟩
theorem parts_fn {d : Nat} {w : Bool} : ∀ (qs : List (PyData × Nat)), (∀ q ∈ qs, CondX d q.2 w q.1) → FnA B1 (qs.length + (qs.map (·.2)).sum * (250 + 30 * d)) (2 * d) (qs.map (·.1)) ∧ PyData.canLayAll0 (qs.map (·.1)) = true
  | [], _ => ⟨.nil, rfl⟩
  | q :: qs, h => by
    obtain ⟨h1, h2⟩ := parts_fn qs fun x hx => h x (List.mem_cons_of_mem _ hx)
    have hq := h q List.mem_cons_self
    refine ⟨((FnA.one hq.f).app h1).mono (Nat.le_refl _) ?_ (Nat.le_refl _), ?_⟩
    · simp only [List.map_cons, List.sum_cons, List.length_cons]
      rw [Nat.add_mul]
      omega
    · simp only [List.map_cons, PyData.canLayAll0, Bool.and_eq_true]
      exact ⟨hq.l, h2⟩
theorem cond_join {d : Nat} {w : Bool} {t : Str} (ht : inD (.str t) joinD = true) {qs : List (PyData × Nat)} (h2 : 2 ≤ qs.length) (h6 : qs.length ≤ 6) (h : ∀ q ∈ qs, CondX d q.2 w q.1 ∧ 1 ≤ q.2) : CondX (d + 1) (qs.map (·.2)).sum w (.tuple [.str t, .tuple (qs.map (·.1))]) := by
  obtain ⟨t1, t2⟩ := sok_and ht
  have a : Fn B1 3 0 (.str t) := Fn.strW t1 t2
  obtain ⟨f1, f2⟩ := parts_fn qs fun q hq => (h q hq).1
  have hs : ∀ l : List (PyData × Nat), (∀ q ∈ l, 1 ≤ q.2) → l.length ≤ (l.map (·.2)).sum := by
    intro l
    induction l with
    | nil => intro _; exact Nat.le_refl _
    | cons q l ih =>
      intro hh
      have := ih fun x hx => hh x (List.mem_cons_of_mem _ hx)
      have := hh q List.mem_cons_self
      simp only [List.map_cons, List.sum_cons, List.length_cons]
      omega
  have hs := hs qs fun q hq => (h q hq).2
  refine ⟨fun e => ?_, ((FnA.one (a.mono (Nat.le_refl _) (Nat.le_refl _) (Nat.zero_le _))).app (FnA.one f1.tup)).tup.mono (Nat.le_refl _) ?_ (by omega), ?_⟩
  · rw [show d + 1 + e = (d + e) + 1 by omega]
    have nn : PyData.eqv (.str t) (.str "not") = false := by
      have := t_in (zs := ["and", "or"]) ht
      simp only [List.mem_cons, List.not_mem_nil, or_false] at this
      rcases this with rfl | rfl <;> decide +kernel
    show (if PyData.eqv (.str t) (.str "not") = true then _ else if inD (.str t) joinD = true then sumP (pcs (d + e) w) (qs.map (·.1)) else none) = _
    rw [nn, ht]
    show sumP (pcs (d + e) w) (qs.map (·.1)) = _
    unfold sumP
    have al : ((qs.map (·.1)).all fun p => (pcs (d + e) w p).isSome) = true := by
      rw [List.all_map, List.all_eq_true]
      intro q hq
      show (pcs (d + e) w q.1).isSome = true
      rw [(h q hq).1.p e]
      rfl
    have sm : ∀ l : List (PyData × Nat), (∀ q ∈ l, CondX d q.2 w q.1) → ((l.map (·.1)).map fun p => (pcs (d + e) w p).getD 0).sum = (l.map (·.2)).sum := by
      intro l
      induction l with
      | nil => intro _; rfl
      | cons q l ih =>
        intro hh
        rw [List.map_cons, List.map_cons, List.map_cons, List.sum_cons, List.sum_cons, ih fun x hx => hh x (List.mem_cons_of_mem _ hx), (hh q List.mem_cons_self).p e]
        rfl
    rw [if_pos (by simp; omega), if_pos al, sm qs fun q hq => (h q hq).1]
  · rw [show (qs.map (·.2)).sum * (250 + 30 * (d + 1)) = (qs.map (·.2)).sum * (250 + 30 * d) + 30 * (qs.map (·.2)).sum by rw [show 250 + 30 * (d + 1) = (250 + 30 * d) + 30 by omega, Nat.mul_add]; omega]
    omega
  · simp only [PyData.canLay0, PyData.canLayAll0, Bool.and_eq_true]
    exact ⟨t1, f2, trivial⟩
/-- a condition drawn -/
structure CdX (x : PyData) : Prop where
  c : isCond x = true
  f : Fn B1 13000 12 x
  l : x.canLay0 = true
/-! ### forms as trees -/
inductive Kd where
  | pick (zs : List Str)
  | some (zs : List Str)
  | count (a b : Int)
def kdD : Kd → PyData
  | .pick zs => .tuple [.str "pick", .tuple (zs.map PyData.str)]
  | .some zs => .tuple [.str "some", .tuple (zs.map PyData.str)]
  | .count a b => .tuple [.str "count", .int a, .int b]
def KdOk : Kd → Prop
  | .pick zs => Opts zs
  | .some zs => Opts zs
  | .count a b => 0 ≤ a ∧ a ≤ b ∧ b ≤ 1000000
theorem kd_x : ∀ {k : Kd}, KdOk k → KindX (kdD k)
  | .pick zs, h => kind_opts (.inl rfl) h
  | .some zs, h => kind_opts (.inr rfl) h
  | .count a b, h => by
    obtain ⟨h0, h1, h2⟩ := h
    have z := kind_count (x := a) (y := b) h0 (by omega) (by omega) h2
    rw [show min a b = a by omega, show max a b = b by omega] at z
    exact z
inductive Cn where
  | pc (w n : Str) (y : PyData)
  | nt (c : Cn)
  | jn (w : Str) (cs : List Cn)
  | an (w n : Str) (c : Cn)
mutual
def cnD : Cn → PyData
  | .pc w n y => .tuple [.str w, .str n, y]
  | .nt c => .tuple [.str "not", cnD c]
  | .jn w cs => .tuple [.str w, .tuple (cnDs cs)]
  | .an w n c => .tuple [.str w, .str n, cnD c]
def cnDs : List Cn → List PyData
  | [] => []
  | c :: r => cnD c :: cnDs r
end
theorem cnDs_map : ∀ cs : List Cn, cnDs cs = cs.map cnD
  | [] => rfl
  | c :: r => by rw [cnDs, cnDs_map r]; rfl
mutual
/-- how many pieces -/
def pcN : Cn → Nat
  | .pc _ _ _ => 1
  | .nt c => pcN c
  | .jn _ cs => pcNs cs
  | .an _ _ c => pcN c
def pcNs : List Cn → Nat
  | [] => 0
  | c :: r => pcN c + pcNs r
end
theorem pcNs_sum : ∀ cs : List Cn, pcNs cs = (cs.map pcN).sum
  | [] => rfl
  | c :: r => by rw [pcNs, pcNs_sum r]; rfl
/-- a piece fits a kind -/
def PcFit (w : Str) (y : PyData) : Kd → Prop
  | .pick zs => w = "is" ∧ ∃ z ∈ zs, y = .str z
  | .some zs => w = "has" ∧ ∃ z ∈ zs, y = .str z
  | .count _ _ => (w = "from" ∨ w = "to") ∧ ∃ n : Int, y = .int n ∧ 0 ≤ n ∧ n ≤ 1000000
theorem pcfit_x {w n : Str} {y : PyData} {k : Kd} (h : PcFit w y k) (hk : KdOk k) (hn : isNameS n = true) : PieceX (.tuple [.str w, .str n, y]) := by
  refine piece_is hn ?_
  cases k with
  | pick zs =>
    obtain ⟨rfl, z, hz, rfl⟩ := h
    exact .inl ⟨by decide +kernel, z, rfl, hk.nm z hz⟩
  | some zs =>
    obtain ⟨rfl, z, hz, rfl⟩ := h
    exact .inl ⟨by decide +kernel, z, rfl, hk.nm z hz⟩
  | count a b =>
    obtain ⟨hw, m, rfl, m0, m1⟩ := h
    refine .inr ⟨?_, m, rfl, m0, m1⟩
    rcases hw with rfl | rfl <;> decide +kernel
abbrev tIf : Str := "if"
abbrev tPart : Str := "part"
abbrev tEach : Str := "each"
abbrev tNo : Str := ""
/-- what stands ahead of a row -/
structure Sc where
  asked : List (Str × (Kd × Str))
  named : List Str
  ended : List Str
  begun : List (Str × Str)
  steps : Nat
  own : Str
/-- a condition of what is ahead -/
inductive CnG (S : Sc) : Str → Bool → Nat → Cn → Prop
  | pc {own : Str} {wh : Bool} {d : Nat} {w n : Str} {y : PyData} {k : Kd} {r : Str} : S.asked.lookup n = some (k, r) → (r = tNo ∨ r = own) → PcFit w y k → isNameS n = true → KdOk k → CnG S own wh (d + 1) (.pc w n y)
  | nt {own : Str} {wh : Bool} {d : Nat} {c : Cn} : CnG S own wh d c → CnG S own wh (d + 1) (.nt c)
  | jn {own : Str} {wh : Bool} {d : Nat} {w : Str} {cs : List Cn} : (w = "and" ∨ w = "or") → 2 ≤ cs.length → cs.length ≤ 3 → (∀ c ∈ cs, CnG S own wh d c) → CnG S own wh (d + 1) (.jn w cs)
  | an {own : Str} {d : Nat} {w n : Str} {c : Cn} : (w = "any" ∨ w = "every") → S.ended.contains n = true → isNameS n = true → CnG S n false d c → CnG S own true (d + 1) (.an w n c)
theorem cng_x {S : Sc} {own : Str} {wh : Bool} {d : Nat} {c : Cn} (h : CnG S own wh d c) : ∀ wi : Bool, (wh = true → wi = false) → CondX d (pcN c) wi (cnD c) ∧ 1 ≤ pcN c ∧ pcN c ≤ 3 ^ d := by
  induction h with
  | @pc own wh d w n y k r e1 e2 e3 e4 e5 =>
    intro wi _
    refine ⟨cond_piece (pcfit_x e3 e5 e4) d wi, Nat.le_refl _, ?_⟩
    exact Nat.one_le_pow _ _ (by decide)
  | @nt own wh d c h ih =>
    intro wi hw
    obtain ⟨a, b, e⟩ := ih wi hw
    refine ⟨cond_not a b, b, ?_⟩
    show pcN c ≤ 3 ^ (d + 1)
    rw [Nat.pow_succ]
    omega
  | @jn own wh d w cs hw2 h2 h3 hc ih =>
    intro wi hw
    have z := cond_join (d := d) (w := wi) (t := w) (by rcases hw2 with rfl | rfl <;> decide +kernel) (qs := cs.map fun c => (cnD c, pcN c)) (by simpa using h2) (by rw [List.length_map]; omega) (fun q hq => by
      obtain ⟨c, hc', rfl⟩ := List.mem_map.mp hq
      obtain ⟨a, b, _⟩ := ih c hc' wi hw
      exact ⟨a, b⟩)
    rw [List.map_map, List.map_map] at z
    have e1 : (List.map ((fun x => x.1) ∘ fun c => (cnD c, pcN c)) cs) = cs.map cnD := rfl
    have e2 : (List.map ((fun x => x.2) ∘ fun c => (cnD c, pcN c)) cs) = cs.map pcN := rfl
    rw [e1, e2] at z
    refine ⟨?_, ?_, ?_⟩
    · show CondX (d + 1) (pcNs cs) wi (.tuple [.str w, .tuple (cnDs cs)])
      rw [pcNs_sum, cnDs_map]
      exact z
    · show 1 ≤ pcNs cs
      match cs, h2, ih with
      | c :: r, _, ih =>
        have := (ih c List.mem_cons_self wi hw).2.1
        show 1 ≤ pcN c + pcNs r
        omega
    · show pcNs cs ≤ 3 ^ (d + 1)
      have : ∀ l : List Cn, (∀ c ∈ l, pcN c ≤ 3 ^ d) → pcNs l ≤ l.length * 3 ^ d := by
        intro l
        induction l with
        | nil => intro _; exact Nat.zero_le _
        | cons c l ih =>
          intro hh
          have a := hh c List.mem_cons_self
          have b := ih fun x hx => hh x (List.mem_cons_of_mem _ hx)
          show pcN c + pcNs l ≤ (l.length + 1) * 3 ^ d
          rw [Nat.add_mul]
          omega
      have a := this cs fun c hc' => (ih c hc' wi hw).2.2
      have b : cs.length * 3 ^ d ≤ 3 * 3 ^ d := Nat.mul_le_mul_right _ h3
      rw [Nat.pow_succ]
      omega
  | @an own d w n c hw2 he hn h ih =>
    intro wi hw
    have e := hw rfl
    subst e
    obtain ⟨a, b, e⟩ := ih true (fun z => by cases z)
    refine ⟨cond_any (by rcases hw2 with rfl | rfl <;> decide +kernel) hn a b, b, ?_⟩
    show pcN c ≤ 3 ^ (d + 1)
    rw [Nat.pow_succ]
    omega
/-- .. as forms have it -/
theorem cng_cd {S : Sc} {own : Str} {wh : Bool} {c : Cn} (h : CnG S own wh 3 c) : CdX (cnD c) := by
  obtain ⟨a, b, e⟩ := cng_x h false (fun _ => rfl)
  have e : pcN c ≤ 27 := e
  refine ⟨?_, a.f.mono (Nat.le_refl _) ?_ (by omega), a.l⟩
  · have := a.p 3
    unfold isCond
    rw [show pcs 6 false (cnD c) = some (pcN c) from this]
    show decide ((pcN c : Int) ≤ 30) = true
    exact decide_eq_true (by omega)
  · have : pcN c * (250 + 30 * 3) ≤ 27 * 340 := Nat.mul_le_mul e (by omega)
    omega
inductive Stp where
  | ask (n : Str) (k : Kd)
  | con (w : Str) (c : Cn)
  | leave (n : Str) (c : Cn)
  | iff (c : Cn) (a b : List Stp)
  | part (n : Str) (ss : List Stp)
  | each (n q : Str) (ss : List Stp)
mutual
def stD : Stp → PyData
  | .ask n k => .tuple [.str "ask", .str n, kdD k]
  | .con w c => .tuple [.str w, cnD c]
  | .leave n c => .tuple [.str "leave", .str n, cnD c]
  | .iff c a b => .tuple [.str "if", cnD c, .tuple (stDs a), .tuple (stDs b)]
  | .part n ss => .tuple [.str "part", .str n, .tuple (stDs ss)]
  | .each n q ss => .tuple [.str "each", .str n, .str q, .tuple (stDs ss)]
def stDs : List Stp → List PyData
  | [] => []
  | s :: r => stD s :: stDs r
end
theorem stDs_map : ∀ ss : List Stp, stDs ss = ss.map stD
  | [] => rfl
  | c :: r => by rw [stDs, stDs_map r]; rfl
namespace Sc
def tick (S : Sc) : Sc := { S with steps := S.steps + 1 }
def name (S : Sc) (n : Str) : Sc := { S with named := S.named ++ [n] }
def ask (S : Sc) (n : Str) (k : Kd) : Sc := { S with named := S.named ++ [n], asked := S.asked ++ [(n, (k, S.own))] }
def push (S : Sc) (w n : Str) : Sc := { S with begun := S.begun ++ [(w, n)] }
/-- a round begun -/
def pushE (S : Sc) (n : Str) : Sc := { S with begun := S.begun ++ [(tEach, n)], own := n }
def pop (S : Sc) : Sc := { S with begun := S.begun.dropLast }
def popE (S : Sc) (n : Str) : Sc := { S with begun := S.begun.dropLast, own := tNo, ended := if S.ended.contains n = true then S.ended else S.ended ++ [n] }
end Sc
/-- what holds of every scope -/
structure SOk (S : Sc) : Prop where
  ln : S.named.length ≤ S.steps
  la : S.asked.length ≤ S.steps
  le : S.ended.length + S.begun.length ≤ S.steps
  ls : S.steps ≤ 60
  lb : S.begun.length ≤ 5
  sb : ∀ p ∈ S.begun, (p.1 = tIf ∧ p.2 = tNo) ∨ ((p.1 = tPart ∨ p.1 = tEach) ∧ isNameS p.2 = true)
  so : ((S.begun.filter fun p => p.1 == tEach).map (·.2)) = if S.own = tNo then [] else [S.own]
  sk : ∀ q ∈ S.asked, KdOk q.2.1 ∧ PyData.strOk q.2.2 = true
  an : ∀ z, sHas S.asked z = true → S.named.contains z = true
/-- one step more may come -/
def Can (S : Sc) : Prop := SOk S ∧ S.steps < 60 ∧ S.begun.length < 5
def New (S : Sc) (n : Str) : Prop := isNameS n = true ∧ S.named.contains n = false
def Knows (S : Sc) (c : Cn) : Prop := CnG S S.own (S.own == tNo) 3 c
mutual
/-- a step fits, and what then stands -/
def FitS : Sc → Stp → Sc → Prop
  | S, .ask n k, S' => Can S ∧ New S n ∧ KdOk k ∧ S' = (S.tick).ask n k
  | S, .con w c, S' => Can S ∧ (w = "hard" ∨ w = "soft") ∧ Knows S.tick c ∧ S' = S.tick
  | S, .leave n c, S' => Can S ∧ isNameS n = true ∧ (tPart, n) ∈ S.begun ∧ Knows S.tick c ∧ S' = S.tick
  | S, .iff c a b, S' => Can S ∧ Knows S.tick c ∧ ∃ S1 S2, FitL (S.tick.push tIf tNo) a S1 ∧ FitL S1 b S2 ∧ S' = S2.pop
  | S, .part n ss, S' => Can S ∧ New S n ∧ ∃ S1, FitL ((S.tick.name n).push tPart n) ss S1 ∧ S' = S1.pop
  | S, .each n q ss, S' => Can S ∧ New S n ∧ S.own = tNo ∧ isNameS q = true ∧ (∃ a b, S.asked.lookup q = some (Kd.count a b, tNo) ∧ b ≤ 4) ∧ ∃ S1, FitL ((S.tick.name n).pushE n) ss S1 ∧ S' = S1.popE n
def FitL : Sc → List Stp → Sc → Prop
  | S, [], S' => SOk S ∧ S' = S
  | S, s :: r, S' => ∃ S1, FitS S s S1 ∧ FitL S1 r S'
end
def s0 : Sc := ⟨[], [], [], [], 0, tNo⟩
def IsForm (ss : List Stp) : Prop := ∃ S, FitL s0 ss S
theorem s0_ok : SOk s0 := ⟨Nat.le_refl _, Nat.le_refl _, Nat.le_refl _, by decide, by decide, by simp [s0], rfl, by simp [s0], fun z h => by cases h⟩
theorem name_ne {n : Str} (h : isNameS n = true) : n ≠ tNo := by
  rintro rfl
  exact absurd h (by decide +kernel)
theorem SOk.tick {S : Sc} (h : Can S) : SOk S.tick := by
  obtain ⟨h, a, b⟩ := h
  exact ⟨Nat.le_succ_of_le h.ln, Nat.le_succ_of_le h.la, Nat.le_succ_of_le h.le, a, h.lb, h.sb, h.so, h.sk, h.an⟩
theorem own_ok {S : Sc} (h : SOk S) : PyData.strOk S.own = true := by
  by_cases e : S.own = tNo
  · rw [e]; decide +kernel
  · have z := h.so
    rw [if_neg e] at z
    have m : S.own ∈ (S.begun.filter fun p => p.1 == tEach).map (·.2) := by rw [z]; exact List.mem_singleton_self _
    obtain ⟨p, hp, e2⟩ := List.mem_map.mp m
    rcases h.sb p (List.mem_filter.mp hp).1 with ⟨_, q⟩ | ⟨_, q⟩
    · rw [← e2, q]; decide +kernel
    · rw [← e2]; exact name_sok q
theorem has_app (l : List (Str × (Kd × Str))) (n z : Str) (q : Kd × Str) : sHas (l ++ [(n, q)]) z = true → sHas l z = true ∨ z = n := by
  unfold sHas
  induction l with
  | nil =>
    intro h
    right
    simp only [List.nil_append, List.lookup_cons] at h
    by_cases e : z = n
    · exact e
    · rw [beq_eq_false_iff_ne.mpr e] at h; cases h
  | cons p l ih =>
    obtain ⟨a, b⟩ := p
    intro h
    rw [List.cons_append, List.lookup_cons] at h
    rw [List.lookup_cons]
    by_cases e : z = a
    · subst e; rw [beq_self_eq_true]; exact .inl rfl
    · rw [beq_eq_false_iff_ne.mpr e] at h ⊢
      exact ih h
theorem SOk.ask {S : Sc} (h : Can S) {n : Str} {k : Kd} (hk : KdOk k) : SOk (S.tick.ask n k) := by
  have t := SOk.tick h
  obtain ⟨h, a, b⟩ := h
  refine ⟨?_, ?_, t.le, t.ls, t.lb, t.sb, t.so, ?_, ?_⟩
  · show (S.named ++ [n]).length ≤ S.steps + 1
    have := h.ln
    simp
    omega
  · show (S.asked ++ [(n, (k, S.own))]).length ≤ S.steps + 1
    have := h.la
    simp
    omega
  · intro q hq
    rcases List.mem_append.mp hq with hq | hq
    · exact h.sk q hq
    · rw [List.mem_singleton.mp hq]
      exact ⟨hk, (own_ok h : PyData.strOk S.own = true)⟩
  · intro z hz
    show (S.named ++ [n]).contains z = true
    rcases has_app _ _ _ _ hz with q | q
    · have := h.an z q
      simp at this ⊢
      exact .inl this
    · simp [q]
theorem SOk.pushI {S : Sc} (h : Can S) : SOk (S.tick.push tIf tNo) := by
  have t := SOk.tick h
  obtain ⟨h, a, b⟩ := h
  refine ⟨t.ln, t.la, ?_, t.ls, ?_, ?_, ?_, t.sk, t.an⟩
  · show S.ended.length + (S.begun ++ [(tIf, tNo)]).length ≤ S.steps + 1
    have := h.le
    simp
    omega
  · show (S.begun ++ [(tIf, tNo)]).length ≤ 5
    simp
    omega
  · intro p hp
    rcases List.mem_append.mp hp with hp | hp
    · exact h.sb p hp
    · rw [List.mem_singleton.mp hp]; exact .inl ⟨rfl, rfl⟩
  · show ((S.begun ++ [(tIf, tNo)]).filter fun p => p.1 == tEach).map (·.2) = _
    rw [List.filter_append, List.map_append, h.so]
    exact List.append_nil _
theorem SOk.name {S : Sc} (h : Can S) {n : Str} : SOk (S.tick.name n) := by
  have t := SOk.tick h
  obtain ⟨h, a, b⟩ := h
  refine ⟨?_, t.la, t.le, t.ls, t.lb, t.sb, t.so, t.sk, ?_⟩
  · show (S.named ++ [n]).length ≤ S.steps + 1
    have := h.ln
    simp
    omega
  · intro z hz
    show (S.named ++ [n]).contains z = true
    have := h.an z hz
    simp at this ⊢
    exact .inl this
theorem SOk.pushP {S : Sc} (h : Can S) {n : Str} (hn : isNameS n = true) : SOk ((S.tick.name n).push tPart n) := by
  have t := SOk.name h (n := n)
  obtain ⟨h, a, b⟩ := h
  refine ⟨t.ln, t.la, ?_, t.ls, ?_, ?_, ?_, t.sk, t.an⟩
  · show S.ended.length + (S.begun ++ [(tPart, n)]).length ≤ S.steps + 1
    have := h.le
    simp
    omega
  · show (S.begun ++ [(tPart, n)]).length ≤ 5
    simp
    omega
  · intro p hp
    rcases List.mem_append.mp hp with hp | hp
    · exact h.sb p hp
    · rw [List.mem_singleton.mp hp]; exact .inr ⟨.inl rfl, hn⟩
  · show ((S.begun ++ [(tPart, n)]).filter fun p => p.1 == tEach).map (·.2) = _
    rw [List.filter_append, List.map_append, h.so]
    exact List.append_nil _
theorem SOk.pushE {S : Sc} (h : Can S) {n : Str} (hn : isNameS n = true) (ho : S.own = tNo) : SOk ((S.tick.name n).pushE n) := by
  have t := SOk.name h (n := n)
  obtain ⟨h, a, b⟩ := h
  refine ⟨t.ln, t.la, ?_, t.ls, ?_, ?_, ?_, t.sk, t.an⟩
  · show S.ended.length + (S.begun ++ [(tEach, n)]).length ≤ S.steps + 1
    have := h.le
    simp
    omega
  · show (S.begun ++ [(tEach, n)]).length ≤ 5
    simp
    omega
  · intro p hp
    rcases List.mem_append.mp hp with hp | hp
    · exact h.sb p hp
    · rw [List.mem_singleton.mp hp]; exact .inr ⟨.inr rfl, hn⟩
  · show ((S.begun ++ [(tEach, n)]).filter fun p => p.1 == tEach).map (·.2) = if n = tNo then [] else [n]
    rw [List.filter_append, List.map_append, h.so, if_pos ho, if_neg (name_ne hn)]
    rfl
theorem SOk.popI {S : Sc} (h : SOk S) {b : List (Str × Str)} {w n : Str} (hb : S.begun = b ++ [(w, n)]) (hw : w ≠ tEach) : SOk S.pop := by
  have e : S.begun.dropLast = b := by rw [hb]; simp
  refine ⟨h.ln, h.la, ?_, h.ls, ?_, ?_, ?_, h.sk, h.an⟩
  · show S.ended.length + S.begun.dropLast.length ≤ S.steps
    have := h.le
    rw [hb] at this
    rw [e]
    simp at this
    omega
  · show S.begun.dropLast.length ≤ 5
    have := h.lb
    rw [hb] at this
    rw [e]
    simp at this
    omega
  · intro p hp
    exact h.sb p (by rw [hb]; exact List.mem_append_left _ (by rw [← e]; exact hp))
  · show (S.begun.dropLast.filter fun p => p.1 == tEach).map (·.2) = _
    rw [e]
    have z := h.so
    rw [hb, List.filter_append, List.map_append] at z
    have : ([(w, n)].filter fun p => p.1 == tEach) = [] := by simp [hw]
    rw [this] at z
    exact (by simpa using z : _ = (if S.own = tNo then [] else [S.own]))
theorem SOk.popE {S : Sc} (h : SOk S) {b : List (Str × Str)} {n : Str} (hb : S.begun = b ++ [(tEach, n)]) : SOk (S.popE n) := by
  have e : S.begun.dropLast = b := by rw [hb]; simp
  refine ⟨h.ln, h.la, ?_, h.ls, ?_, ?_, ?_, h.sk, h.an⟩
  · show (if S.ended.contains n = true then S.ended else S.ended ++ [n]).length + S.begun.dropLast.length ≤ S.steps
    have := h.le
    rw [hb] at this
    rw [e]
    simp only [List.length_append, List.length_cons, List.length_nil] at this
    split
    · omega
    · simp; omega
  · show S.begun.dropLast.length ≤ 5
    have := h.lb
    rw [hb] at this
    rw [e]
    simp at this
    omega
  · intro p hp
    exact h.sb p (by rw [hb]; exact List.mem_append_left _ (by rw [← e]; exact hp))
  · show (S.begun.dropLast.filter fun p => p.1 == tEach).map (·.2) = if tNo = tNo then [] else _
    rw [e, if_pos rfl]
    have z := h.so
    rw [hb, List.filter_append, List.map_append] at z
    have : ([(tEach, n)].filter fun p => p.1 == tEach) = [(tEach, n)] := rfl
    rw [this] at z
    split at z
    · simp at z
    · have l : (List.map (fun x => x.2) (List.filter (fun p => p.1 == tEach) b)).length = 0 := by
        have := congrArg List.length z
        simpa using this
      exact List.eq_nil_of_length_eq_zero l
mutual
/-- what is begun stays, what holds goes on -/
theorem fitS_ok : ∀ (s : Stp) {S S' : Sc}, FitS S s S' → SOk S' ∧ S'.begun = S.begun ∧ S'.own = S.own ∧ S.steps < S'.steps
  | .ask n k, S, S', h => by
    obtain ⟨c, nw, hk, rfl⟩ := h
    exact ⟨SOk.ask c hk, rfl, rfl, Nat.lt_succ_self _⟩
  | .con w c, S, S', h => by
    obtain ⟨c, _, _, rfl⟩ := h
    exact ⟨SOk.tick c, rfl, rfl, Nat.lt_succ_self _⟩
  | .leave n c, S, S', h => by
    obtain ⟨c, _, _, _, rfl⟩ := h
    exact ⟨SOk.tick c, rfl, rfl, Nat.lt_succ_self _⟩
  | .iff c a b, S, S', h => by
    obtain ⟨c, _, S1, S2, h1, h2, rfl⟩ := h
    obtain ⟨o1, b1, w1, t1⟩ := fitL_ok a h1
    obtain ⟨o2, b2, w2, t2⟩ := fitL_ok b h2
    have hb : S2.begun = S.begun ++ [(tIf, tNo)] := b2.trans b1
    refine ⟨o2.popI hb (by decide), ?_, w2.trans w1, ?_⟩
    · show S2.begun.dropLast = _
      rw [hb]
      simp
    · show S.steps < S2.steps
      have : S.steps + 1 ≤ S1.steps := t1
      omega
  | .part n ss, S, S', h => by
    obtain ⟨c, nw, S1, h1, rfl⟩ := h
    obtain ⟨o1, b1, w1, t1⟩ := fitL_ok ss h1
    have hb : S1.begun = S.begun ++ [(tPart, n)] := b1
    refine ⟨o1.popI hb (by decide), ?_, w1, ?_⟩
    · show S1.begun.dropLast = _
      rw [hb]
      simp
    · exact t1
  | .each n q ss, S, S', h => by
    obtain ⟨c, nw, ho, _, _, S1, h1, rfl⟩ := h
    obtain ⟨o1, b1, w1, t1⟩ := fitL_ok ss h1
    have hb : S1.begun = S.begun ++ [(tEach, n)] := b1
    refine ⟨o1.popE hb, ?_, ho.symm, ?_⟩
    · show S1.begun.dropLast = _
      rw [hb]
      simp
    · exact t1
theorem fitL_ok : ∀ (ss : List Stp) {S S' : Sc}, FitL S ss S' → SOk S' ∧ S'.begun = S.begun ∧ S'.own = S.own ∧ S.steps ≤ S'.steps
  | [], S, S', h => by
    obtain ⟨o, rfl⟩ := h
    exact ⟨o, rfl, rfl, Nat.le_refl _⟩
  | s :: r, S, S', h => by
    obtain ⟨S1, h1, h2⟩ := h
    obtain ⟨o1, b1, w1, t1⟩ := fitS_ok s h1
    obtain ⟨o2, b2, w2, t2⟩ := fitL_ok r h2
    exact ⟨o2, b2.trans b1, w2.trans w1, by omega⟩
end
theorem FitL.ok {ss : List Stp} {S S' : Sc} (h : FitL S ss S') : SOk S := by
  cases ss with
  | nil => exact h.1
  | cons s r =>
    obtain ⟨S1, h1, _⟩ := h
    cases s <;> exact h1.1.1
/-- sizes and lay of a datum -/
structure Lay (w d : Nat) (x : PyData) : Prop where
  f : Fn B1 w d x
  l : x.canLay0 = true
structure LayA (w d : Nat) (xs : List PyData) : Prop where
  f : FnA B1 w d xs
  l : PyData.canLayAll0 xs = true
theorem LayA.nil {w d : Nat} : LayA w d [] := ⟨FnA.nil, rfl⟩
theorem LayA.cons {w w' d : Nat} {x : PyData} {xs : List PyData} (h : Lay w d x) (k : LayA w' d xs) : LayA (w + 1 + w') d (x :: xs) :=
  ⟨(FnA.one h.f).app k.f, by simp only [PyData.canLayAll0, Bool.and_eq_true]; exact ⟨h.l, k.l⟩⟩
theorem LayA.tup {w d : Nat} {xs : List PyData} (h : LayA w d xs) : Lay w (d + 1) (.tuple xs) := ⟨h.f.tup, h.l⟩
theorem Lay.mono {w d w' d' : Nat} {x : PyData} (h : Lay w d x) (a : w ≤ w') (b : d ≤ d') : Lay w' d' x := ⟨h.f.mono (Nat.le_refl _) a b, h.l⟩
theorem LayA.mono {w d w' d' : Nat} {x : List PyData} (h : LayA w d x) (a : w ≤ w') (b : d ≤ d') : LayA w' d' x := ⟨h.f.mono (Nat.le_refl _) a b, h.l⟩
theorem lay_str {z : Str} {d : Nat} (h : isNameS z = true) : Lay 8 d (.str z) := ⟨Fn.strW (name_sok h) (name_len8 h), name_sok h⟩
theorem lay_lit {z : Str} {d : Nat} (h : PyData.strOk z = true) (l : z.length ≤ 8) : Lay 8 d (.str z) := ⟨Fn.strW h l, h⟩
theorem Lay.t {w d : Nat} {x : PyData} (h : Lay w d x) (hw : w ≤ 16000000) : okT x := ⟨okL_mono (by decide) x h.f.o, Nat.le_trans h.f.w hw⟩
theorem kd_lay {k : Kd} {d : Nat} (h : KdOk k) : Lay 500 (d + 2) (kdD k) := ⟨(kd_x h).f.mono (Nat.le_refl _) (Nat.le_refl _) (by omega), (kd_x h).l⟩
theorem cn_lay {S : Sc} {own : Str} {wh : Bool} {c : Cn} {d : Nat} (h : CnG S own wh 3 c) : Lay 13000 (d + 12) (cnD c) := ⟨(cng_cd h).f.mono (Nat.le_refl _) (Nat.le_refl _) (by omega), (cng_cd h).l⟩
mutual
theorem fitS_lay : ∀ (s : Stp) {S S' : Sc}, FitS S s S' → Lay (15000 * (S'.steps - S.steps) - 900) (2 * (5 - S.begun.length) + 14) (stD s)
  | .ask n k, S, S', h => by
    obtain ⟨c, nw, hk, rfl⟩ := h
    have z := (LayA.cons (lay_lit (z := "ask") (by decide +kernel) (by decide +kernel)) (LayA.cons (lay_str nw.1) (LayA.cons (kd_lay (d := 0) hk) (LayA.nil (w := 0))))).tup
    refine z.mono ?_ (by omega)
    show _ ≤ 15000 * (S.steps + 1 - S.steps) - 900
    rw [Nat.add_sub_cancel_left]
    decide
  | .con w c, S, S', h => by
    obtain ⟨c', hw, hc, rfl⟩ := h
    have z := (LayA.cons (lay_lit (z := w) (by rcases hw with rfl | rfl <;> decide +kernel) (by rcases hw with rfl | rfl <;> decide +kernel)) (LayA.cons (cn_lay (d := 0) hc) (LayA.nil (w := 0)))).tup
    refine z.mono ?_ (by omega)
    show _ ≤ 15000 * (S.steps + 1 - S.steps) - 900
    rw [Nat.add_sub_cancel_left]
    decide
  | .leave n c, S, S', h => by
    obtain ⟨c', hn, _, hc, rfl⟩ := h
    have z := (LayA.cons (lay_lit (z := "leave") (by decide +kernel) (by decide +kernel)) (LayA.cons (lay_str hn) (LayA.cons (cn_lay (d := 0) hc) (LayA.nil (w := 0))))).tup
    refine z.mono ?_ (by omega)
    show _ ≤ 15000 * (S.steps + 1 - S.steps) - 900
    rw [Nat.add_sub_cancel_left]
    decide
  | .iff c a b, S, S', h => by
    obtain ⟨c', hc, S1, S2, h1, h2, rfl⟩ := h
    obtain ⟨o1, b1, w1, t1⟩ := fitL_ok a h1
    obtain ⟨o2, b2, w2, t2⟩ := fitL_ok b h2
    have l1 := fitL_lay a h1
    have l2 := fitL_lay b h2
    have e1 : (S.tick.push tIf tNo).begun.length = S.begun.length + 1 := by simp [Sc.push, Sc.tick]
    rw [b1] at l2
    rw [e1] at l1 l2
    have lt := c'.2.2
    have z := (LayA.cons (lay_lit (d := 2 * (5 - (S.begun.length + 1)) + 15) (z := "if") (by decide +kernel) (by decide +kernel)) (LayA.cons (cn_lay (d := 2 * (5 - (S.begun.length + 1)) + 3) hc) (LayA.cons l1.tup (LayA.cons l2.tup (LayA.nil (w := 0)))))).tup
    refine z.mono ?_ (by omega)
    show _ ≤ 15000 * (S2.steps - S.steps) - 900
    have t1 : S.steps + 1 ≤ S1.steps := t1
    have e3 : (S.tick.push tIf tNo).steps = S.steps + 1 := rfl
    rw [e3]
    omega
  | .part n ss, S, S', h => by
    obtain ⟨c', nw, S1, h1, rfl⟩ := h
    obtain ⟨o1, b1, w1, t1⟩ := fitL_ok ss h1
    have l1 := fitL_lay ss h1
    have e1 : ((S.tick.name n).push tPart n).begun.length = S.begun.length + 1 := by simp [Sc.push, Sc.name, Sc.tick]
    rw [e1] at l1
    have lt := c'.2.2
    have z := (LayA.cons (lay_lit (d := 2 * (5 - (S.begun.length + 1)) + 15) (z := "part") (by decide +kernel) (by decide +kernel)) (LayA.cons (lay_str nw.1) (LayA.cons l1.tup (LayA.nil (w := 0))))).tup
    refine z.mono ?_ (by omega)
    show _ ≤ 15000 * (S1.steps - S.steps) - 900
    have t1 : S.steps + 1 ≤ S1.steps := t1
    have e3 : ((S.tick.name n).push tPart n).steps = S.steps + 1 := rfl
    rw [e3]
    omega
  | .each n q ss, S, S', h => by
    obtain ⟨c', nw, ho, hq, _, S1, h1, rfl⟩ := h
    obtain ⟨o1, b1, w1, t1⟩ := fitL_ok ss h1
    have l1 := fitL_lay ss h1
    have e1 : ((S.tick.name n).pushE n).begun.length = S.begun.length + 1 := by simp [Sc.pushE, Sc.name, Sc.tick]
    rw [e1] at l1
    have lt := c'.2.2
    have z := (LayA.cons (lay_lit (d := 2 * (5 - (S.begun.length + 1)) + 15) (z := "each") (by decide +kernel) (by decide +kernel)) (LayA.cons (lay_str nw.1) (LayA.cons (lay_str hq) (LayA.cons l1.tup (LayA.nil (w := 0)))))).tup
    refine z.mono ?_ (by omega)
    show _ ≤ 15000 * (S1.steps - S.steps) - 900
    have t1 : S.steps + 1 ≤ S1.steps := t1
    have e3 : ((S.tick.name n).pushE n).steps = S.steps + 1 := rfl
    rw [e3]
    omega
theorem fitL_lay : ∀ (ss : List Stp) {S S' : Sc}, FitL S ss S' → LayA (15000 * (S'.steps - S.steps)) (2 * (5 - S.begun.length) + 14) (stDs ss)
  | [], S, S', h => LayA.nil
  | s :: r, S, S', h => by
    obtain ⟨S1, h1, h2⟩ := h
    obtain ⟨o1, b1, w1, t1⟩ := fitS_ok s h1
    obtain ⟨o2, b2, w2, t2⟩ := fitL_ok r h2
    have l1 := fitS_lay s h1
    have l2 := fitL_lay r h2
    rw [b1] at l2
    refine (LayA.cons l1 l2).mono ?_ (Nat.le_refl _)
    omega
end
theorem form_lay {ss : List Stp} (h : IsForm ss) : Lay 900000 25 (.tuple (stDs ss)) := by
  obtain ⟨S, h⟩ := h
  have l := (fitL_lay ss h).tup
  have o := (fitL_ok ss h).1.ls
  have e : s0.steps = 0 := rfl
  have e2 : s0.begun.length = 0 := rfl
  rw [e, e2] at l
  exact l.mono (by omega) (by omega)
end Ms
set_option Elab.async false
set_option linter.all false
set_option maxRecDepth 100000
namespace Ms
open PySem PySem.Spec PyProof.Rows L2 Dl
/-! ### a scope in the heap -/
structure Ad where
  a : Addr
  s : Addr
  n : Addr
  e : Addr
  b : Addr
def askW (l : List (Str × (Kd × Str))) : List (Str × W) := l.map fun q => (q.1, .d (.tuple [kdD q.2.1, .str q.2.2]))
def trW (l : List Str) : List (Str × W) := l.map fun z => (z, .d (.bool true))
def begD (l : List (Str × Str)) : List PyData := l.map fun p => .tuple [.str p.1, .str p.2]
abbrev fAsked : Str := "asked"
abbrev fNamed : Str := "named"
abbrev fEnded : Str := "ended"
abbrev fBegun : Str := "begun"
abbrev fSteps : Str := "steps"
abbrev cScope : Str := "Scope"
def flds (A : Ad) (k : Nat) : List (Str × W) := [(fAsked, .ref A.s), (fNamed, .ref A.n), (fEnded, .ref A.e), (fBegun, .ref A.b), (fSteps, .d (.int k))]
structure ScAt (g : Gc) (M : MH) (A : Ad) (S : Sc) : Prop where
  a : M A.a = some (.ins (clsA g cScope) (flds A S.steps))
  s : M A.s = some (.dK (skv (askW S.asked)))
  n : M A.n = some (.dK (skv (trW S.named)))
  e : M A.e = some (.dK (skv (trW S.ended)))
  b : M A.b = some (.lst ((begD S.begun).map W.d))
  d1 : A.s ≠ A.n
  d2 : A.s ≠ A.e
  d3 : A.n ≠ A.e
/-- what is not of the scope stays -/
def Fr (A : Ad) (M M' : MH) : Prop := ∀ b o, b ≠ A.a → b ≠ A.s → b ≠ A.n → b ≠ A.e → b ≠ A.b → M b = some o → M' b = some o
theorem Fr.refl (A : Ad) (M : MH) : Fr A M M := fun _ _ _ _ _ _ _ h => h
theorem Fr.trans {A : Ad} {M M1 M2 : MH} (h : Fr A M M1) (k : Fr A M1 M2) : Fr A M M2 := fun b o h1 h2 h3 h4 h5 e => k b o h1 h2 h3 h4 h5 (h b o h1 h2 h3 h4 h5 e)
theorem Fr.of {A : Ad} {M M' : MH} (k : Keep M M') : Fr A M M' := fun b o _ _ _ _ _ e => k b o e
theorem ScAt.ab {g : Gc} {M : MH} {A : Ad} {S : Sc} (h : ScAt g M A S) : A.a ≠ A.s ∧ A.a ≠ A.n ∧ A.a ≠ A.e ∧ A.a ≠ A.b ∧ A.b ≠ A.s ∧ A.b ≠ A.n ∧ A.b ≠ A.e := by
  refine ⟨?_, ?_, ?_, ?_, ?_, ?_, ?_⟩ <;> intro q
  · have := h.a; rw [q, h.s] at this; cases this
  · have := h.a; rw [q, h.n] at this; cases this
  · have := h.a; rw [q, h.e] at this; cases this
  · have := h.a; rw [q, h.b] at this; cases this
  · have := h.b; rw [q, h.s] at this; cases this
  · have := h.b; rw [q, h.n] at this; cases this
  · have := h.b; rw [q, h.e] at this; cases this
theorem ScAt.keep {g : Gc} {M M' : MH} {A : Ad} {S : Sc} (h : ScAt g M A S) (k : Keep M M') : ScAt g M' A S := ⟨k _ _ h.a, k _ _ h.s, k _ _ h.n, k _ _ h.e, k _ _ h.b, h.d1, h.d2, h.d3⟩
theorem ScAt.tick {g : Gc} {M : MH} {A : Ad} {S : Sc} (h : ScAt g M A S) : ScAt g (mset M A.a (.ins (clsA g cScope) (flds A (S.steps + 1)))) A S.tick := by
  obtain ⟨x1, x2, x3, x4, _⟩ := h.ab
  exact ⟨mset_same, by rw [mset_ne x1.symm]; exact h.s, by rw [mset_ne x2.symm]; exact h.n, by rw [mset_ne x3.symm]; exact h.e, by rw [mset_ne x4.symm]; exact h.b, h.d1, h.d2, h.d3⟩
theorem ScAt.beg {g : Gc} {M : MH} {A : Ad} {S : Sc} (h : ScAt g M A S) (l : List (Str × Str)) (w : Str) : ScAt g (mset M A.b (.lst ((begD l).map W.d))) A { S with begun := l, own := w } := by
  obtain ⟨_, _, _, x4, x5, x6, x7⟩ := h.ab
  exact ⟨by rw [mset_ne x4]; exact h.a, by rw [mset_ne x5.symm]; exact h.s, by rw [mset_ne x6.symm]; exact h.n, by rw [mset_ne x7.symm]; exact h.e, mset_same, h.d1, h.d2, h.d3⟩
theorem ScAt.nam {g : Gc} {M : MH} {A : Ad} {S : Sc} (h : ScAt g M A S) (l : List Str) : ScAt g (mset M A.n (.dK (skv (trW l)))) A { S with named := l } := by
  obtain ⟨_, x2, _, _, _, x6, _⟩ := h.ab
  exact ⟨by rw [mset_ne x2]; exact h.a, by rw [mset_ne h.d1]; exact h.s, mset_same, by rw [mset_ne h.d3.symm]; exact h.e, by rw [mset_ne x6]; exact h.b, h.d1, h.d2, h.d3⟩
theorem ScAt.end_ {g : Gc} {M : MH} {A : Ad} {S : Sc} (h : ScAt g M A S) (l : List Str) : ScAt g (mset M A.e (.dK (skv (trW l)))) A { S with ended := l } := by
  obtain ⟨_, _, x3, _, _, _, x7⟩ := h.ab
  exact ⟨by rw [mset_ne x3]; exact h.a, by rw [mset_ne h.d2]; exact h.s, by rw [mset_ne h.d3]; exact h.n, mset_same, by rw [mset_ne x7]; exact h.b, h.d1, h.d2, h.d3⟩
theorem ScAt.ask {g : Gc} {M : MH} {A : Ad} {S : Sc} (h : ScAt g M A S) (l : List (Str × (Kd × Str))) : ScAt g (mset M A.s (.dK (skv (askW l)))) A { S with asked := l } := by
  obtain ⟨x1, _, _, _, x5, _, _⟩ := h.ab
  exact ⟨by rw [mset_ne x1]; exact h.a, mset_same, by rw [mset_ne h.d1.symm]; exact h.n, by rw [mset_ne h.d2.symm]; exact h.e, by rw [mset_ne x5]; exact h.b, h.d1, h.d2, h.d3⟩
theorem fr_a {A : Ad} {M : MH} {o : O} : Fr A M (mset M A.a o) := fun b u h1 _ _ _ _ e => by rw [mset_ne h1]; exact e
theorem fr_s {A : Ad} {M : MH} {o : O} : Fr A M (mset M A.s o) := fun b u _ h1 _ _ _ e => by rw [mset_ne h1]; exact e
theorem fr_n {A : Ad} {M : MH} {o : O} : Fr A M (mset M A.n o) := fun b u _ _ h1 _ _ e => by rw [mset_ne h1]; exact e
theorem fr_e {A : Ad} {M : MH} {o : O} : Fr A M (mset M A.e o) := fun b u _ _ _ h1 _ e => by rw [mset_ne h1]; exact e
theorem fr_b {A : Ad} {M : MH} {o : O} : Fr A M (mset M A.b o) := fun b u _ _ _ _ h1 e => by rw [mset_ne h1]; exact e
theorem lookup_tr (l : List Str) (z : Str) : (trW l).lookup z = if l.contains z = true then some (.d (.bool true)) else none := by
  induction l with
  | nil => rfl
  | cons x l ih =>
    show List.lookup z ((x, _) :: trW l) = _
    rw [List.lookup_cons, List.contains_cons]
    by_cases e : z = x
    · subst e; simp
    · have e' : (z == x) = false := beq_eq_false_iff_ne.mpr e
      rw [e', ih, Bool.false_or]
theorem has_tr (l : List Str) (z : Str) : sHas (trW l) z = l.contains z := by
  unfold sHas
  rw [lookup_tr]
  cases l.contains z <;> rfl
theorem put_tr (l : List Str) (z : Str) : sPut (trW l) z (.d (.bool true)) = trW (if l.contains z = true then l else l ++ [z]) := by
  unfold sPut
  rw [has_tr]
  split
  · unfold trW
    rw [List.map_map]
    apply List.map_congr_left
    intro x _
    simp only [Function.comp]
    split <;> rfl
  · unfold trW
    rw [List.map_append]
    rfl
theorem lookup_ask (l : List (Str × (Kd × Str))) (z : Str) : (askW l).lookup z = (l.lookup z).map fun q => .d (.tuple [kdD q.1, .str q.2]) := lookup_map (fun q : Kd × Str => W.d (.tuple [kdD q.1, .str q.2])) l z
theorem has_ask (l : List (Str × (Kd × Str))) (z : Str) : sHas (askW l) z = sHas l z := sHas_map (fun q : Kd × Str => W.d (.tuple [kdD q.1, .str q.2])) l z
theorem put_ask (l : List (Str × (Kd × Str))) (z : Str) (k : Kd) (r : Str) (h : sHas l z = false) : sPut (askW l) z (.d (.tuple [kdD k, .str r])) = askW (l ++ [(z, (k, r))]) := by
  unfold sPut
  rw [has_ask, h, if_neg Bool.false_ne_true]
  unfold askW
  rw [List.map_append]
  rfl
/-- the name of the round that is begun -/
def spOwn (g : Gc) : SpD := fun ws M Q _ => ∃ A S, ws = [.ref A.a] ∧ ScAt g M A S ∧ SOk S ∧ Q (.d (.str S.own)) M
theorem spOwn_len {g : Gc} : ∀ ws M Q E, spOwn g ws M Q E → ws.length = 1 := by rintro _ _ _ _ ⟨A, S, rfl, _⟩; rfl
theorem eqv_str (a b : Str) : PyData.eqv (.str a) (.str b) = (a == b) := by
  by_cases e : a = b
  · subst e; simp [PyData.eqv]
  · simp [PyData.eqv, e]
def isEachW : W → Bool
  | .d (.tuple [.str w, _]) => w == tEach
  | _ => false
def nameW : W → PyData
  | .d (.tuple [_, n]) => n
  | _ => .none
theorem own_len {S : Sc} (h : SOk S) (e : S.own ≠ tNo) : S.own.length ≤ 8 := by
  have z := h.so
  rw [if_neg e] at z
  have m : S.own ∈ (S.begun.filter fun p => p.1 == tEach).map (·.2) := by rw [z]; exact List.mem_singleton_self _
  obtain ⟨p, hp, e2⟩ := List.mem_map.mp m
  rcases h.sb p (List.mem_filter.mp hp).1 with ⟨_, q⟩ | ⟨_, q⟩
  · exact absurd (e2.symm.trans q) e
  · rw [← e2]; exact name_len8 q
theorem d_Scope_own_round {g : Gc} (T : Txt g) : DfM g 1 (clsA g "Scope") "own_round" ["self"] (spOwn g) := by
  refine dfm_of (k := 0) (i := i_Scope_own_round) T.p_Scope_own_round T.sy sc_Scope_own_round ok_Scope_own_round (fun _ _ _ _ _ _ us hl => match us, hl with | [_], _ => rfl) ?_ (fun Y ws M Q E F hE h => ?_)
  · exact spOwn_len
  · obtain ⟨A, S, rfl, hs, ok, h⟩ := h
    refine ⟨_, (ss_one (s_ret (q_met m_join q_str (a_cons (q_lc (own := [("word", 1), ("name", 2)]) F ⟨_, ["self", "word", "name"], [1, 2], [1, 2], [], [], false, true⟩ (.many [1, 2]) ⟨rfl, rfl, ⟨rfl, by decide +kernel, by decide +kernel, by decide +kernel, by decide +kernel⟩, by decide +kernel, by decide +kernel, rfl, rfl⟩ (by decide) (i_lst (q_fld F T.k_Scope T.a_Scope_begun (q_var F 0))) (fun _ F hw => ⟨(pgT F (pgsN F 1 (pgsN F 2 pgsN0))), (ts_one (t_cmp (o_eq F) (q_var F 1) q_str)), (q_var F 2)⟩)) a_nil)))), ?_⟩
    refine ⟨⟨_, rfl⟩, ?_⟩
    refine ⟨A.a, _, _, rfl, hs.a, rfl, _, hs.b, ?_⟩
    have el : ((((begD S.begun).map W.d).filter isEachW).map nameW) = ((S.begun.filter fun p => p.1 == tEach).map (·.2)).map PyData.str := by
      clear hs ok h
      generalize S.begun = l
      induction l with
      | nil => rfl
      | cons p l ih =>
        show List.map nameW (List.filter isEachW (W.d (.tuple [.str p.1, .str p.2]) :: (begD l).map W.d)) = _
        rw [List.filter_cons, List.filter_cons]
        cases e : p.1 == tEach with
        | true => rw [show isEachW (W.d (.tuple [.str p.1, .str p.2])) = true from e, if_pos rfl, if_pos rfl, List.map_cons, ih]; rfl
        | false => rw [show isEachW (W.d (.tuple [.str p.1, .str p.2])) = false from e, if_neg Bool.false_ne_true, if_neg Bool.false_ne_true, ih]
    have hl := ok.lb
    refine lcPe isEachW nameW _ el (by rw [List.length_map]; unfold begD; rw [List.length_map]; omega) (fun D acc nD => ?_) ?_ ?_
    · rw [mset_ne (by rintro rfl; rw [hs.b] at nD; cases nD)]
      exact hs.b
    · intro w hw
      obtain ⟨d, hd, rfl⟩ := List.mem_map.mp hw
      obtain ⟨p, hp, rfl⟩ := List.mem_map.mp hd
      refine ⟨rfl, fun M2 _ => ⟨fun R r => ⟨rfl, ?_⟩, fun _ R r => r⟩⟩
      show R (PyData.eqv (.str p.1) (.str tEach)) M2
      rw [eqv_str]
      exact r
    · dsimp only [tNilA, rJoinD]
      show ∃ ys : List Str, _
      have so := ok.so
      rw [so]
      by_cases e : S.own = tNo
      · rw [if_pos e]
        refine ⟨[], rfl, by decide, ?_⟩
        rw [e] at h
        exact h
      · rw [if_neg e]
        refine ⟨[S.own], rfl, ?_, h⟩
        have : S.own.length ≤ 8 := own_len ok e
        have z0 : (Str.ofString "").length = 0 := by decide +kernel
        simp
        omega
/-- a name that nothing has yet -/
def spNew (g : Gc) : SpD := fun ws M Q _ => ∃ A S z, ws = [.ref A.a, .d (.str z)] ∧ ScAt g M A S ∧ New S z ∧ Q (.d (.bool true)) M
theorem spNew_len {g : Gc} : ∀ ws M Q E, spNew g ws M Q E → ws.length = 2 := by rintro _ _ _ _ ⟨A, S, z, rfl, _⟩; rfl
theorem d_Scope_is_new {g : Gc} (T : Txt g) : DfM g 2 (clsA g "Scope") "is_new" ["self", "name"] (spNew g) := by
  refine dfm_of (k := 1) (i := i_Scope_is_new) T.p_Scope_is_new T.sy sc_Scope_is_new ok_Scope_is_new (fun _ _ _ _ _ _ us hl => match us, hl with | [_, _], _ => rfl) ?_ (fun Y ws M Q E F hE h => ?_)
  · exact spNew_len
  · obtain ⟨A, S, z, rfl, hs, hn, h⟩ := h
    refine ⟨_, (ss_one (s_ret (q_and (q_call F 0 (d_is_name T) (a_cons (q_var F 1) a_nil)) (q_one (q_cmp (o_snotin F) (q_var F 1) (q_fld F T.k_Scope T.a_Scope_named (q_var F 0))))))), ?_⟩
    refine ⟨_, rfl, (lay_str (d := 0) hn.1).t (by decide), ?_⟩
    refine bqc true hn.1 ?_
    refine ⟨A.a, _, _, rfl, hs.a, rfl, _, hs.n, ?_⟩
    rw [has_tr, hn.2]
    exact h
/-- a piece that fits what is asked -/
def spKP (g : Gc) : SpD := fun ws M Q _ => ∃ A S w n y own k r, ws = [.ref A.a, .d (.tuple [.str w, .str n, y]), .d (.str own)] ∧ ScAt g M A S ∧ SOk S ∧ S.asked.lookup n = some (k, r) ∧ (r = tNo ∨ r = own) ∧ PyData.strOk own = true ∧ PcFit w y k ∧ Q (.d (.bool true)) M
theorem spKP_len {g : Gc} : ∀ ws M Q E, spKP g ws M Q E → ws.length = 3 := by rintro _ _ _ _ ⟨A, S, w, n, y, own, k, r, rfl, _⟩; rfl
theorem ask_mem {S : Sc} {n : Str} {q : Kd × Str} (h : S.asked.lookup n = some q) : (n, q) ∈ S.asked := by
  revert h
  generalize S.asked = l
  induction l with
  | nil => intro h; cases h
  | cons p l ih =>
    obtain ⟨a, b⟩ := p
    intro h
    rw [List.lookup_cons] at h
    by_cases e : n = a
    · subst e
      rw [beq_self_eq_true] at h
      cases h
      exact List.mem_cons_self
    · rw [beq_eq_false_iff_ne.mpr e] at h
      exact List.mem_cons_of_mem _ (ih h)
theorem d_Scope_knows_piece {g : Gc} (T : Txt g) : DfM g 1 (clsA g "Scope") "knows_piece" ["self", "piece", "own"] (spKP g) := by
  refine dfm_of (k := 0) (i := i_Scope_knows_piece) T.p_Scope_knows_piece T.sy sc_Scope_knows_piece ok_Scope_knows_piece (fun _ _ _ _ _ _ us hl => match us, hl with | [_, _, _], _ => rfl) ?_ (fun Y ws M Q E F hE h => ?_)
  · exact spKP_len
  · obtain ⟨A, S, w, n, y, own, k, r, rfl, hs, ok, hl, hr, ho, hf, h⟩ := h
    refine ⟨_, (ss_cons (s_set (q_var F 1) (g_tup F (gs_cons (g_name F 3) (gs_cons (g_name F 4) (gs_cons (g_name F 5) gs_nil))))) (ss_cons (s_if (t_cmp (o_snotin F) (q_var F 4) (q_fld F T.k_Scope T.a_Scope_asked (q_var F 0))) (ss_one (s_ret q_bool)) ss_nil) (ss_cons (s_set (q_sget F (q_fld F T.k_Scope T.a_Scope_asked (q_var F 0)) (q_var F 4)) (g_tup F (gs_cons (g_name F 6) (gs_cons (g_name F 7) gs_nil)))) (ss_cons (s_if (QW.pt (w_or (t_cmp (o_notIn F) (q_var F 7) (q_tup (a_cons q_str (a_cons (q_var F 2) a_nil)))) (w_or1 (t_cmp (o_ne F) (q_ix (q_var F 6) q_int) (q_kix F 0 T.v_PIECES_trees.choose_spec (q_var F 3)))))) (ss_one (s_ret q_bool)) ss_nil) (ss_one (s_ret (q_or (q_cmp (o_eq F) (q_ix (q_var F 6) q_int) q_str) (q_one (q_cmp (o_in F) (q_var F 5) (q_ix (q_var F 6) q_int)))))))))), ?_⟩
    have hh : sHas S.asked n = true := by unfold sHas; rw [hl]; rfl
    obtain ⟨hk, sr⟩ := ok.sk _ (ask_mem hl)
    refine ⟨rfl, ?_⟩
    refine ⟨A.a, _, _, rfl, hs.a, rfl, _, hs.s, bqc false (by show (!sHas (askW S.asked) n) = false; rw [has_ask, hh]; rfl) ?_⟩
    refine ⟨A.a, _, _, rfl, hs.a, rfl, _, .d (.tuple [kdD k, .str r]), hs.s, by rw [lookup_ask, hl]; rfl, rfl, ?_⟩
    refine ⟨sm2, in_strs (zs := [tNo, own]) (by intro x hx; rcases List.mem_cons.mp hx with rfl | hx; exact (by decide +kernel); rw [List.mem_singleton.mp hx]; exact ho) sr, ?_⟩
    refine bqc false (by show (!inD (.str r) ([tNo, own].map PyData.str)) = false; rw [inD_strs]; rcases hr with rfl | rfl <;> simp) ?_
    cases k with
    | pick zs =>
      obtain ⟨rfl, z, hz, rfl⟩ := hf
      refine ⟨_, at0, _, _, rfl, rfl, rfl, bqc false (by decide +kernel) ?_⟩
      refine ⟨_, at0, rfl, bqc false (by decide +kernel) ?_⟩
      refine ⟨_, at1, in_strs (fun x hx => name_sok (hk.nm x hx)) (name_sok (hk.nm z hz)), ?_⟩
      exact qcast h (by show true = inD (.str z) (zs.map PyData.str); rw [inD_strs]; simp [hz])
    | some zs =>
      obtain ⟨rfl, z, hz, rfl⟩ := hf
      refine ⟨_, at0, _, _, rfl, rfl, rfl, bqc false (by decide +kernel) ?_⟩
      refine ⟨_, at0, rfl, bqc false (by decide +kernel) ?_⟩
      refine ⟨_, at1, in_strs (fun x hx => name_sok (hk.nm x hx)) (name_sok (hk.nm z hz)), ?_⟩
      exact qcast h (by show true = inD (.str z) (zs.map PyData.str); rw [inD_strs]; simp [hz])
    | count a b =>
      obtain ⟨hw, m, rfl, m0, m1⟩ := hf
      rcases hw with rfl | rfl
      · refine ⟨_, at0, _, _, rfl, rfl, rfl, bqc false (by decide +kernel) ?_⟩
        refine ⟨_, at0, rfl, bqc true (by decide +kernel) ?_⟩
        exact h
      · refine ⟨_, at0, _, _, rfl, rfl, rfl, bqc false (by decide +kernel) ?_⟩
        refine ⟨_, at0, rfl, bqc true (by decide +kernel) ?_⟩
        exact h
end Ms
set_option Elab.async false
set_option linter.all false
set_option maxRecDepth 100000
namespace Ms
open PySem PySem.Spec PyProof.Rows L2 Dl
/-- a condition whose pieces fit -/
def spKW (g : Gc) : Nat → SpD
  | 0 => spNo
  | n + 1 => fun ws M Q _ => ∃ A S c own wh, ws = [.ref A.a, .d (cnD c), .d (.str own), .d (.bool wh)] ∧ ScAt g M A S ∧ SOk S ∧ PyData.strOk own = true ∧ CnG S own wh (n + 1) c ∧ Q (.d (.bool true)) M
theorem spKW_len {g : Gc} {n : Nat} : ∀ ws M Q E, spKW g n ws M Q E → ws.length = 4 := by
  cases n with
  | zero => intro _ _ _ _ h; exact h.elim
  | succ n => rintro _ _ _ _ ⟨A, S, c, own, wh, rfl, _⟩; rfl
theorem cng_pos {S : Sc} {own : Str} {wh : Bool} {d : Nat} {c : Cn} (h : CnG S own wh d c) : ∃ m, d = m + 1 := by
  cases h <;> exact ⟨_, rfl⟩
theorem d_Scope_knows_within {g : Gc} (T : Txt g) : ∀ n : Nat, DfM g (2 + n) (clsA g "Scope") "knows_within" ["self", "condition", "own", "whole"] ((spKW g) n)
  | 0 => dfm_of (k := 1) (i := i_Scope_knows_within) T.p_Scope_knows_within T.sy sc_Scope_knows_within ok_Scope_knows_within (fun _ _ _ _ _ _ us hl => match us, hl with | [_, _, _, _], _ => rfl) (fun _ _ _ _ (h : False) => h.elim) (fun _ _ _ _ _ _ _ (h : False) => h.elim)
  | n + 1 => by
    refine dfm_of (k := 2 + n) (i := i_Scope_knows_within) T.p_Scope_knows_within T.sy sc_Scope_knows_within ok_Scope_knows_within (fun _ _ _ _ _ _ us hl => match us, hl with | [_, _, _, _], _ => rfl) ?_ (fun Y ws M Q E F hE h => ?_)
    · exact spKW_len
    · obtain ⟨A, S, c, own, wh, rfl, hs, ok, ho, hc, h⟩ := h
      refine ⟨_, (ss_cons (s_set (q_ix (q_var F 1) q_int) (g_name F 4)) (ss_cons (s_if (t_cmp (o_inK F T.c_PIECES_trees.choose_spec) (q_var F 4) (q_ref F 0 T.c_PIECES_trees.choose_spec)) (ss_one (s_ret (q_methW rfl F T.k_Scope (d_Scope_knows_piece T) (q_var F 0) (a_cons (q_var F 1) (a_cons (q_var F 2) a_nil))))) ss_nil) (ss_cons (s_if (t_cmp (o_eq F) (q_var F 4) q_str) (ss_one (s_ret (q_methW rfl F T.k_Scope (d_Scope_knows_within T n) (q_var F 0) (a_cons (q_ix (q_var F 1) q_int) (a_cons (q_var F 2) (a_cons (q_var F 3) a_nil)))))) ss_nil) (ss_cons (s_if (t_cmp (o_in F) (q_var F 4) (q_tup (a_cons q_str (a_cons q_str a_nil)))) (ss_one (s_ret (q_callB F 1 (c_all F) T.n_all (by decide +kernel) (a_cons (q_lc (own := [("part", 5)]) F ⟨_, ["self", "condition", "own", "whole", "word", "part"], [5, 2, 3, 0], [5], [], [], false, true⟩ (.one 5) ⟨rfl, rfl, ⟨rfl, by decide +kernel, by decide +kernel, by decide +kernel, by decide +kernel⟩, by decide +kernel, by decide +kernel, rfl, rfl⟩ (by decide) (i_tup (q_ix (q_var F 1) q_int)) (fun _ F hw => ⟨(pgN F 5), ts_nil, (q_methW hw F T.k_Scope (d_Scope_knows_within T n) (q_var F 0) (a_cons (q_var F 5) (a_cons (q_var F 2) (a_cons (q_var F 3) a_nil))))⟩)) a_nil)))) ss_nil) (ss_one (s_ret (q_and (q_var F 3) (q_and (q_cmp (o_sin F) (q_ix (q_var F 1) q_int) (q_fld F T.k_Scope T.a_Scope_ended (q_var F 0))) (q_one (q_methW rfl F T.k_Scope (d_Scope_knows_within T n) (q_var F 0) (a_cons (q_ix (q_var F 1) q_int) (a_cons (q_ix (q_var F 1) q_int) (a_cons q_bool a_nil))))))))))))), ?_⟩
      cases hc with
      | @pc _ _ _ w nm y k r e1 e2 e3 e4 e5 =>
        have hk : (["is", "has", "from", "to"] : List Str).contains w = true := by
          cases k with
          | pick zs => obtain ⟨rfl, _⟩ := e3; decide +kernel
          | some zs => obtain ⟨rfl, _⟩ := e3; decide +kernel
          | count a b => obtain ⟨rfl | rfl, _⟩ := e3 <;> decide +kernel
        refine ⟨_, at0, ?_⟩
        refine ⟨rfl, bqc true hk ?_⟩
        exact ⟨A.a, _, rfl, hs.a, rfl, A, S, w, nm, y, own, k, r, rfl, hs, ok, e1, e2, ho, e3, h⟩
      | @nt _ _ _ c hc =>
        obtain ⟨m, rfl⟩ := cng_pos hc
        refine ⟨_, at0, ?_⟩
        refine ⟨rfl, bqc false (by decide +kernel) ?_⟩
        refine ⟨rfl, bqc true (by decide +kernel) ?_⟩
        exact ⟨A.a, _, rfl, hs.a, rfl, _, at1, A, S, c, own, wh, rfl, hs, ok, ho, hc, h⟩
      | @jn _ _ _ w cs hw h2 h3 hc =>
        refine ⟨_, at0, ?_⟩
        refine ⟨rfl, bqc false (by rcases hw with rfl | rfl <;> decide +kernel) ?_⟩
        refine ⟨rfl, bqc false (by rcases hw with rfl | rfl <;> decide +kernel) ?_⟩
        refine ⟨sm2, by rcases hw with rfl | rfl <;> decide +kernel, bqc true (by rcases hw with rfl | rfl <;> decide +kernel) ?_⟩
        refine ⟨_, at1, ?_⟩
        have hlen : ((cnDs cs).map W.d).length = cs.length := by rw [cnDs_map, List.length_map, List.length_map]
        refine lcA (T := .one 5) (fun _ => .bool true) (by rw [hlen]; omega) (fun _ _ _ => trivial) ?_ ?_
        · intro v hv M2 km R r
          obtain ⟨x, hx, rfl⟩ := List.mem_map.mp hv
          rw [cnDs_map] at hx
          obtain ⟨c', hc', rfl⟩ := List.mem_map.mp hx
          have hh := hc c' hc'
          obtain ⟨m, rfl⟩ := cng_pos hh
          have hs2 := hs.keep km
          exact ⟨A.a, _, rfl, hs2.a, rfl, A, S, c', own, wh, rfl, hs2, ok, ho, hh, r⟩
        · dsimp only [tNilA, Dl.rAll]
          have e : ((cnDs cs).map W.d).map (fun _ => PyData.bool true) = (cs.map fun _ => true).map PyData.bool := by
            rw [cnDs_map, List.map_map, List.map_map, List.map_map]
            rfl
          rw [e, bools_map]
          refine qcast h ?_
          simp
      | @an _ _ w nm c hw he hn hc =>
        obtain ⟨m, rfl⟩ := cng_pos hc
        refine ⟨_, at0, ?_⟩
        refine ⟨rfl, bqc false (by rcases hw with rfl | rfl <;> decide +kernel) ?_⟩
        refine ⟨rfl, bqc false (by rcases hw with rfl | rfl <;> decide +kernel) ?_⟩
        refine ⟨sm2, by rcases hw with rfl | rfl <;> decide +kernel, bqc false (by rcases hw with rfl | rfl <;> decide +kernel) ?_⟩
        refine iteF ?_
        dsimp only [tNxt, tRtn, tAnd2, Dl.tVar, startD, List.map, List.cons_append, List.nil_append, List.set, slotQ]
        refine bqc true rfl ?_
        refine ⟨_, at1, A.a, _, _, rfl, hs.a, rfl, _, hs.e, ?_⟩
        refine bqc true (by show sHas (trW S.ended) nm = true; rw [has_tr]; exact he) ?_
        exact ⟨A.a, _, rfl, hs.a, rfl, _, at2, _, at1, A, S, c, nm, false, rfl, hs, ok, name_sok hn, hc, h⟩
/-- a condition of what is ahead -/
def spKn (g : Gc) : SpD := fun ws M Q _ => ∃ A S c, ws = [.ref A.a, .d (cnD c)] ∧ ScAt g M A S ∧ SOk S ∧ Knows S c ∧ Q (.d (.bool true)) M
theorem spKn_len {g : Gc} : ∀ ws M Q E, spKn g ws M Q E → ws.length = 2 := by rintro _ _ _ _ ⟨A, S, c, rfl, _⟩; rfl
theorem cd_t {c : Cn} (h : CdX (cnD c)) : okT (cnD c) := ⟨okL_mono (by decide) _ h.f.o, Nat.le_trans h.f.w (by decide)⟩
theorem d_Scope_knows {g : Gc} (T : Txt g) : DfM g 19 (clsA g "Scope") "knows" ["self", "condition"] (spKn g) := by
  refine dfm_of (k := 18) (i := i_Scope_knows) T.p_Scope_knows T.sy sc_Scope_knows ok_Scope_knows (fun _ _ _ _ _ _ us hl => match us, hl with | [_, _], _ => rfl) ?_ (fun Y ws M Q E F hE h => ?_)
  · exact spKn_len
  · obtain ⟨A, S, c, rfl, hs, ok, hc, h⟩ := h
    refine ⟨_, (ss_cons (s_set (q_meth0W rfl F T.k_Scope (d_Scope_own_round T) (q_var F 0)) (g_name F 2)) (ss_one (s_ret (q_and (q_call F 0 (d_is_condition T) (a_cons (q_var F 1) a_nil)) (q_one (q_methW rfl F T.k_Scope (d_Scope_knows_within T 3) (q_var F 0) (a_cons (q_var F 1) (a_cons (q_var F 2) (a_cons (q_cmp (o_eq F) (q_var F 2) q_str) a_nil))))))))), ?_⟩
    have cx := cng_cd hc
    refine ⟨A.a, _, rfl, hs.a, rfl, A, S, rfl, hs, ok, ?_⟩
    refine ⟨_, rfl, cd_t cx, ?_⟩
    refine bqc true cx.c ?_
    refine ⟨A.a, _, rfl, hs.a, rfl, rfl, ?_⟩
    refine ⟨A, S, c, S.own, S.own == tNo, ?_, hs, ok, own_ok ok, hc, h⟩
    show [W.ref A.a, .d (cnD c), .d (.str S.own), .d (.bool (PyData.eqv (.str S.own) (.str tNo)))] = _
    rw [eqv_str]
theorem kd_t {k : Kd} (h : KdOk k) : okT (kdD k) := (kd_lay (d := 0) h).t (by decide)
theorem new_ask {S : Sc} {n : Str} (ok : SOk S) (h : New S n) : sHas S.asked n = false := by
  cases e : sHas S.asked n with
  | false => rfl
  | true =>
    have := ok.an n e
    rw [h.2] at this
    cases this
theorem put_new {l : List Str} {n : Str} (h : l.contains n = false) : sPut (trW l) n (.d (.bool true)) = trW (l ++ [n]) := by
  rw [put_tr, h, if_neg Bool.false_ne_true]
theorem tr_len (l : List Str) : (trW l).length = l.length := by unfold trW; rw [List.length_map]
theorem ask_len (l : List (Str × (Kd × Str))) : (askW l).length = l.length := by unfold askW; rw [List.length_map]
theorem few {n : Nat} (h : n ≤ 60) : n < sizeLine := by rw [sizeLine_eq]; omega
def spTA (g : Gc) : SpD := fun ws M Q _ => ∃ A S n k, ws = [.ref A.a, .d (.str n), .d (kdD k)] ∧ ScAt g M A S.tick ∧ Can S ∧ New S n ∧ KdOk k ∧ ∀ M', ScAt g M' A (S.tick.ask n k) → Fr A M M' → Q (.d (.bool true)) M'
theorem spTA_len {g : Gc} : ∀ ws M Q E, spTA g ws M Q E → ws.length = 3 := by rintro _ _ _ _ ⟨A, S, n, k, rfl, _⟩; rfl
theorem d_Scope_take_ask {g : Gc} (T : Txt g) : DfM g 6 (clsA g "Scope") "take_ask" ["self", "name", "kind"] (spTA g) := by
  refine dfm_of (k := 5) (i := i_Scope_take_ask) T.p_Scope_take_ask T.sy sc_Scope_take_ask ok_Scope_take_ask (fun _ _ _ _ _ _ us hl => match us, hl with | [_, _, _], _ => rfl) ?_ (fun Y ws M Q E F hE h => ?_)
  · exact spTA_len
  · obtain ⟨A, S, n, k, rfl, hs, ok, hn, hk, h⟩ := h
    refine ⟨_, (ss_cons (s_if (QW.pt (w_or (t_not (t_val (q_methW rfl F T.k_Scope (d_Scope_is_new T) (q_var F 0) (a_cons (q_var F 1) a_nil)))) (w_or1 (t_not (t_val (q_call F 0 (d_is_kind T) (a_cons (q_var F 2) a_nil))))))) (ss_one (s_ret q_bool)) ss_nil) (ss_cons (s_set q_bool (g_sput F (q_fld F T.k_Scope T.a_Scope_named (q_var F 0)) (q_var F 1))) (ss_cons (s_set (q_tup (a_cons (q_var F 2) (a_cons (q_meth0W rfl F T.k_Scope (d_Scope_own_round T) (q_var F 0)) a_nil))) (g_sput F (q_fld F T.k_Scope T.a_Scope_asked (q_var F 0)) (q_var F 1))) (ss_one (s_ret q_bool))))), ?_⟩
    refine ⟨A.a, _, rfl, hs.a, rfl, A, S.tick, n, rfl, hs, hn, ?_⟩
    refine bqc true rfl ?_
    refine ⟨_, rfl, kd_t hk, ?_⟩
    refine bqc true (kd_x hk).k ?_
    refine iteF ?_
    have l1 : S.named.length ≤ 60 := Nat.le_trans ok.1.ln ok.1.ls
    have l2 : S.asked.length ≤ 60 := Nat.le_trans ok.1.la ok.1.ls
    refine ⟨A.a, _, _, rfl, hs.a, rfl, _, hs.n, by rw [tr_len]; exact few l1, ?_⟩
    rw [show sPut (trW S.tick.named) n (.d (.bool true)) = trW (S.named ++ [n]) from put_new hn.2]
    have hs1 : ScAt g _ A (S.tick.name n) := hs.nam (S.named ++ [n])
    refine ⟨A.a, _, rfl, hs1.a, rfl, A, S.tick.name n, rfl, hs1, SOk.name ok, sm2, ?_⟩
    refine ⟨A.a, _, _, rfl, hs1.a, rfl, _, hs1.s, by rw [ask_len]; exact few l2, ?_⟩
    rw [show sPut (askW (S.tick.name n).asked) n (.d (.tuple [kdD k, .str (S.tick.name n).own])) = askW (S.asked ++ [(n, (k, S.own))]) from put_ask _ _ _ _ (new_ask ok.1 hn : sHas S.asked n = false)]
    exact h _ (hs1.ask _) (fr_n.trans fr_s)
def spTP (g : Gc) : SpD := fun ws M Q _ => ∃ A S n, ws = [.ref A.a, .d (.str n)] ∧ ScAt g M A S.tick ∧ Can S ∧ New S n ∧ ∀ M', ScAt g M' A ((S.tick.name n).push tPart n) → Fr A M M' → Q (.d (.bool true)) M'
theorem spTP_len {g : Gc} : ∀ ws M Q E, spTP g ws M Q E → ws.length = 2 := by rintro _ _ _ _ ⟨A, S, n, rfl, _⟩; rfl
theorem beg_snoc (l : List (Str × Str)) (w n : Str) : (begD l).map W.d ++ [.d (.tuple [.str w, .str n])] = (begD (l ++ [(w, n)])).map W.d := by
  unfold begD
  rw [List.map_append, List.map_append]
  rfl
theorem beg_len (l : List (Str × Str)) : ((begD l).map W.d).length = l.length := by unfold begD; rw [List.length_map, List.length_map]
theorem d_Scope_take_part {g : Gc} (T : Txt g) : DfM g 3 (clsA g "Scope") "take_part" ["self", "name"] (spTP g) := by
  refine dfm_of (k := 2) (i := i_Scope_take_part) T.p_Scope_take_part T.sy sc_Scope_take_part ok_Scope_take_part (fun _ _ _ _ _ _ us hl => match us, hl with | [_, _], _ => rfl) ?_ (fun Y ws M Q E F hE h => ?_)
  · exact spTP_len
  · obtain ⟨A, S, n, rfl, hs, ok, hn, h⟩ := h
    refine ⟨_, (ss_cons (s_if (t_not (t_val (q_methW rfl F T.k_Scope (d_Scope_is_new T) (q_var F 0) (a_cons (q_var F 1) a_nil)))) (ss_one (s_ret q_bool)) ss_nil) (ss_cons (s_set q_bool (g_sput F (q_fld F T.k_Scope T.a_Scope_named (q_var F 0)) (q_var F 1))) (ss_cons (s_expr (q_met m_append (q_fld F T.k_Scope T.a_Scope_begun (q_var F 0)) (a_cons (q_tup (a_cons q_str (a_cons (q_var F 1) a_nil))) a_nil))) (ss_one (s_ret q_bool))))), ?_⟩
    refine ⟨A.a, _, rfl, hs.a, rfl, A, S.tick, n, rfl, hs, hn, ?_⟩
    refine bqc true rfl ?_
    refine iteF ?_
    have l1 : S.named.length ≤ 60 := Nat.le_trans ok.1.ln ok.1.ls
    refine ⟨A.a, _, _, rfl, hs.a, rfl, _, hs.n, by rw [tr_len]; exact few l1, ?_⟩
    rw [show sPut (trW S.tick.named) n (.d (.bool true)) = trW (S.named ++ [n]) from put_new hn.2]
    have hs1 : ScAt g _ A (S.tick.name n) := hs.nam (S.named ++ [n])
    refine ⟨A.a, _, _, rfl, hs1.a, rfl, ⟨_, hs1.b⟩, ?_⟩
    have lb := ok.1.lb
    refine ⟨sm2, _, hs1.b, by rw [beg_len]; exact few (show S.begun.length ≤ 60 by omega), ?_⟩
    rw [beg_snoc]
    exact h _ (hs1.beg _ _) (fr_n.trans fr_b)
def spTE (g : Gc) : SpD := fun ws M Q _ => ∃ A S n q a b, ws = [.ref A.a, .d (.str n), .d (.str q)] ∧ ScAt g M A S.tick ∧ Can S ∧ New S n ∧ S.own = tNo ∧ isNameS q = true ∧ S.asked.lookup q = some (Kd.count a b, tNo) ∧ b ≤ 4 ∧ ∀ M', ScAt g M' A ((S.tick.name n).pushE n) → Fr A M M' → Q (.d (.bool true)) M'
theorem spTE_len {g : Gc} : ∀ ws M Q E, spTE g ws M Q E → ws.length = 3 := by rintro _ _ _ _ ⟨A, S, n, q, a, b, rfl, _⟩; rfl
theorem d_Scope_take_each {g : Gc} (T : Txt g) : DfM g 3 (clsA g "Scope") "take_each" ["self", "name", "question"] (spTE g) := by
  refine dfm_of (k := 2) (i := i_Scope_take_each) T.p_Scope_take_each T.sy sc_Scope_take_each ok_Scope_take_each (fun _ _ _ _ _ _ us hl => match us, hl with | [_, _, _], _ => rfl) ?_ (fun Y ws M Q E F hE h => ?_)
  · exact spTE_len
  · obtain ⟨A, S, n, q, a, b, rfl, hs, ok, hn, ho, hq, hl, hb, h⟩ := h
    refine ⟨_, (ss_cons (s_if (QW.pt (w_or (t_not (t_val (q_methW rfl F T.k_Scope (d_Scope_is_new T) (q_var F 0) (a_cons (q_var F 1) a_nil)))) (w_or (t_cmp (o_ne F) (q_meth0W rfl F T.k_Scope (d_Scope_own_round T) (q_var F 0)) q_str) (w_or (t_not (t_val (q_call F 1 (d_is_name T) (a_cons (q_var F 2) a_nil)))) (w_or1 (t_cmp (o_snotin F) (q_var F 2) (q_fld F T.k_Scope T.a_Scope_asked (q_var F 0)))))))) (ss_one (s_ret q_bool)) ss_nil) (ss_cons (s_set (q_sget F (q_fld F T.k_Scope T.a_Scope_asked (q_var F 0)) (q_var F 2)) (g_tup F (gs_cons (g_name F 3) (gs_cons (g_name F 4) gs_nil)))) (ss_cons (s_if (QW.pt (w_or (t_cmp (o_ne F) (q_var F 4) q_str) (w_or (t_cmp (o_ne F) (q_ix (q_var F 3) q_int) q_str) (w_or1 (t_cmp o_gt (q_ix (q_var F 3) q_int) (q_cst F 0 T.c_MOST_FOLK)))))) (ss_one (s_ret q_bool)) ss_nil) (ss_cons (s_set q_bool (g_sput F (q_fld F T.k_Scope T.a_Scope_named (q_var F 0)) (q_var F 1))) (ss_cons (s_expr (q_met m_append (q_fld F T.k_Scope T.a_Scope_begun (q_var F 0)) (a_cons (q_tup (a_cons q_str (a_cons (q_var F 1) a_nil))) a_nil))) (ss_one (s_ret q_bool))))))), ?_⟩
    have hh : sHas S.asked q = true := by unfold sHas; rw [hl]; rfl
    refine ⟨A.a, _, rfl, hs.a, rfl, A, S.tick, n, rfl, hs, hn, ?_⟩
    refine bqc true rfl ?_
    refine ⟨A.a, _, rfl, hs.a, rfl, A, S.tick, rfl, hs, SOk.tick ok, ?_⟩
    rw [show S.tick.own = tNo from ho]
    refine ⟨rfl, bqc false (by decide +kernel) ?_⟩
    refine ⟨_, rfl, (lay_str (d := 0) hq).t (by decide), ?_⟩
    refine bqc true hq ?_
    refine ⟨A.a, _, _, rfl, hs.a, rfl, _, hs.s, ?_⟩
    refine bqc false (by show (!sHas (askW S.asked) q) = false; rw [has_ask, hh]; rfl) ?_
    refine ⟨A.a, _, _, rfl, hs.a, rfl, _, .d (.tuple [kdD (Kd.count a b), .str tNo]), hs.s, by show (askW S.asked).lookup q = _; rw [lookup_ask, hl]; rfl, rfl, ?_⟩
    refine ⟨rfl, bqc false (by decide +kernel) ?_⟩
    refine ⟨_, at0, rfl, bqc false (by decide +kernel) ?_⟩
    refine ⟨_, at2, ?_⟩
    dsimp only [tK, rInt0, k_MOST_FOLK]
    refine bqc false (decide_eq_false (by omega)) ?_
    refine iteF ?_
    have l1 : S.named.length ≤ 60 := Nat.le_trans ok.1.ln ok.1.ls
    refine ⟨A.a, _, _, rfl, hs.a, rfl, _, hs.n, by rw [tr_len]; exact few l1, ?_⟩
    rw [show sPut (trW S.tick.named) n (.d (.bool true)) = trW (S.named ++ [n]) from put_new hn.2]
    have hs1 : ScAt g _ A (S.tick.name n) := hs.nam (S.named ++ [n])
    refine ⟨A.a, _, _, rfl, hs1.a, rfl, ⟨_, hs1.b⟩, ?_⟩
    have lb := ok.1.lb
    refine ⟨sm2, _, hs1.b, by rw [beg_len]; exact few (show S.begun.length ≤ 60 by omega), ?_⟩
    rw [beg_snoc]
    exact h _ (hs1.beg _ _) (fr_n.trans fr_b)
def spTI (g : Gc) : SpD := fun ws M Q _ => ∃ A S c, ws = [.ref A.a, .d (cnD c)] ∧ ScAt g M A S.tick ∧ Can S ∧ Knows S.tick c ∧ ∀ M', ScAt g M' A (S.tick.push tIf tNo) → Fr A M M' → Q (.d (.bool true)) M'
theorem spTI_len {g : Gc} : ∀ ws M Q E, spTI g ws M Q E → ws.length = 2 := by rintro _ _ _ _ ⟨A, S, c, rfl, _⟩; rfl
theorem d_Scope_take_if {g : Gc} (T : Txt g) : DfM g 20 (clsA g "Scope") "take_if" ["self", "condition"] (spTI g) := by
  refine dfm_of (k := 19) (i := i_Scope_take_if) T.p_Scope_take_if T.sy sc_Scope_take_if ok_Scope_take_if (fun _ _ _ _ _ _ us hl => match us, hl with | [_, _], _ => rfl) ?_ (fun Y ws M Q E F hE h => ?_)
  · exact spTI_len
  · obtain ⟨A, S, c, rfl, hs, ok, hc, h⟩ := h
    refine ⟨_, (ss_cons (s_if (t_not (t_val (q_methW rfl F T.k_Scope (d_Scope_knows T) (q_var F 0) (a_cons (q_var F 1) a_nil)))) (ss_one (s_ret q_bool)) ss_nil) (ss_cons (s_expr (q_met m_append (q_fld F T.k_Scope T.a_Scope_begun (q_var F 0)) (a_cons (q_tup (a_cons q_str (a_cons q_str a_nil))) a_nil))) (ss_one (s_ret q_bool)))), ?_⟩
    refine ⟨A.a, _, rfl, hs.a, rfl, A, S.tick, c, rfl, hs, SOk.tick ok, hc, ?_⟩
    refine bqc true rfl ?_
    refine iteF ?_
    refine ⟨A.a, _, _, rfl, hs.a, rfl, ⟨_, hs.b⟩, ?_⟩
    have lb := ok.1.lb
    refine ⟨sm2, _, hs.b, by rw [beg_len]; exact few (show S.begun.length ≤ 60 by omega), ?_⟩
    rw [beg_snoc]
    exact h _ (hs.beg _ _) fr_b
def spTL (g : Gc) : SpD := fun ws M Q _ => ∃ A S n c, ws = [.ref A.a, .d (.str n), .d (cnD c)] ∧ ScAt g M A S ∧ SOk S ∧ isNameS n = true ∧ (tPart, n) ∈ S.begun ∧ Knows S c ∧ Q (.d (.bool true)) M
theorem spTL_len {g : Gc} : ∀ ws M Q E, spTL g ws M Q E → ws.length = 3 := by rintro _ _ _ _ ⟨A, S, n, c, rfl, _⟩; rfl
theorem beg_lay {S : Sc} (ok : SOk S) : ∀ {l : List (Str × Str)}, (∀ p ∈ l, p ∈ S.begun) → PyData.canLayAll0 (begD l) = true ∧ PyData.depthAll (begD l) ≤ 1
  | [], _ => ⟨rfl, by decide⟩
  | p :: l, h => by
    obtain ⟨h1, h2⟩ := beg_lay ok (l := l) fun x hx => h x (List.mem_cons_of_mem _ hx)
    have hp := ok.sb p (h p List.mem_cons_self)
    have s2 : PyData.strOk p.1 = true ∧ PyData.strOk p.2 = true := by
      rcases hp with ⟨e1, e2⟩ | ⟨e1 | e1, e2⟩
      · rw [e1, e2]; exact ⟨by decide +kernel, by decide +kernel⟩
      · rw [e1]; exact ⟨by decide +kernel, name_sok e2⟩
      · rw [e1]; exact ⟨by decide +kernel, name_sok e2⟩
    constructor
    · show (PyData.canLay0 (.tuple [.str p.1, .str p.2]) && PyData.canLayAll0 (begD l)) = true
      rw [h1]
      simp only [PyData.canLay0, PyData.canLayAll0, Bool.and_eq_true]
      exact ⟨⟨s2.1, s2.2, trivial⟩, trivial⟩
    · have e : (PyData.tuple [.str p.1, .str p.2]).depth = 1 := by simp [PyData.depth, PyData.depthAll]
      show max (PyData.tuple [.str p.1, .str p.2]).depth (PyData.depthAll (begD l)) ≤ 1
      rw [e]
      omega
theorem eqv_pair (a b c d : Str) : PyData.eqv (.tuple [.str a, .str b]) (.tuple [.str c, .str d]) = (a == c && b == d) := by
  by_cases e : a = c <;> by_cases e2 : b = d <;> simp [PyData.eqv, PyData.eqvAll, e, e2]
theorem d_Scope_take_leave {g : Gc} (T : Txt g) : DfM g 20 (clsA g "Scope") "take_leave" ["self", "part", "condition"] (spTL g) := by
  refine dfm_of (k := 19) (i := i_Scope_take_leave) T.p_Scope_take_leave T.sy sc_Scope_take_leave ok_Scope_take_leave (fun _ _ _ _ _ _ us hl => match us, hl with | [_, _, _], _ => rfl) ?_ (fun Y ws M Q E F hE h => ?_)
  · exact spTL_len
  · obtain ⟨A, S, n, c, rfl, hs, ok, hn, hm, hc, h⟩ := h
    refine ⟨_, (ss_one (s_ret (q_and (q_cmp (o_in F) (q_tup (a_cons q_str (a_cons (q_var F 1) a_nil))) (q_fld F T.k_Scope T.a_Scope_begun (q_var F 0))) (q_one (q_methW rfl F T.k_Scope (d_Scope_knows T) (q_var F 0) (a_cons (q_var F 2) a_nil)))))), ?_⟩
    obtain ⟨y1, y2⟩ := beg_lay ok (l := S.begun) fun _ h => h
    have cl : (PyData.tuple [.str tPart, .str n]).canLay0 = true := by
      simp only [PyData.canLay0, PyData.canLayAll0, Bool.and_eq_true]
      exact ⟨by decide +kernel, name_sok hn, trivial⟩
    refine ⟨sm2, A.a, _, _, rfl, hs.a, rfl, _, hs.b, dataQ_of ⟨?_, ?_⟩⟩
    · unfold inOk
      rw [y1, cl]
      simp
      omega
    · refine bqc true ?_ ?_
      · show inD (.tuple [.str tPart, .str n]) (begD S.begun) = true
        unfold inD
        rw [List.any_eq_true]
        refine ⟨_, List.mem_map.mpr ⟨_, hm, rfl⟩, ?_⟩
        rw [eqv_pair]
        simp
      · exact ⟨A.a, _, rfl, hs.a, rfl, A, S, c, rfl, hs, ok, hc, h⟩
end Ms
set_option Elab.async false
set_option linter.all false
set_option maxRecDepth 100000
namespace Ms
open PySem PySem.Spec PyProof.Rows L2 Dl
/-- a step without the steps in it -/
def hdD : Stp → PyData
  | .ask n k => .tuple [.str "ask", .str n, kdD k]
  | .con w c => .tuple [.str w, cnD c]
  | .leave n c => .tuple [.str "leave", .str n, cnD c]
  | .iff c _ _ => .tuple [.str "if", cnD c]
  | .part n _ => .tuple [.str "part", .str n]
  | .each n q _ => .tuple [.str "each", .str n, .str q]
def inD_ : Stp → List PyData
  | .iff _ a b => [.tuple (stDs a), .tuple (stDs b)]
  | .part _ ss => [.tuple (stDs ss)]
  | .each _ _ ss => [.tuple (stDs ss)]
  | _ => []
def HdFit : Sc → Stp → Sc → Prop
  | S, .ask n k, S' => Can S ∧ New S n ∧ KdOk k ∧ S' = (S.tick).ask n k
  | S, .con w c, S' => Can S ∧ (w = "hard" ∨ w = "soft") ∧ Knows S.tick c ∧ S' = S.tick
  | S, .leave n c, S' => Can S ∧ isNameS n = true ∧ (tPart, n) ∈ S.begun ∧ Knows S.tick c ∧ S' = S.tick
  | S, .iff c _ _, S' => Can S ∧ Knows S.tick c ∧ S' = S.tick.push tIf tNo
  | S, .part n _, S' => Can S ∧ New S n ∧ S' = (S.tick.name n).push tPart n
  | S, .each n q _, S' => Can S ∧ New S n ∧ S.own = tNo ∧ isNameS q = true ∧ (∃ a b, S.asked.lookup q = some (Kd.count a b, tNo) ∧ b ≤ 4) ∧ S' = (S.tick.name n).pushE n
theorem HdFit.can {S S' : Sc} : ∀ {s : Stp}, HdFit S s S' → Can S
  | .ask _ _, h => h.1
  | .con _ _, h => h.1
  | .leave _ _, h => h.1
  | .iff _ _ _, h => h.1
  | .part _ _, h => h.1
  | .each _ _ _, h => h.1
theorem put_steps (A : Ad) (k : Nat) (w : W) : putD fSteps w (flds A k) = [(fAsked, .ref A.s), (fNamed, .ref A.n), (fEnded, .ref A.e), (fBegun, .ref A.b), (fSteps, w)] := by
  have a : fAsked ≠ fSteps := by decide +kernel
  have b : fNamed ≠ fSteps := by decide +kernel
  have c : fEnded ≠ fSteps := by decide +kernel
  have d : fBegun ≠ fSteps := by decide +kernel
  unfold flds
  simp only [putD, if_neg a, if_neg b, if_neg c, if_neg d, if_true]
def spTk (g : Gc) : SpD := fun ws M Q _ => ∃ A S s S', ws = [.ref A.a, .d (hdD s)] ∧ ScAt g M A S ∧ HdFit S s S' ∧ ∀ M', ScAt g M' A S' → Fr A M M' → Q (.d (.bool true)) M'
theorem spTk_len {g : Gc} : ∀ ws M Q E, spTk g ws M Q E → ws.length = 2 := by rintro _ _ _ _ ⟨A, S, s, S', rfl, _⟩; rfl
theorem d_Scope_takes {g : Gc} (T : Txt g) : DfM g 21 (clsA g "Scope") "takes" ["self", "head"] (spTk g) := by
  refine dfm_of (k := 20) (i := i_Scope_takes) T.p_Scope_takes T.sy sc_Scope_takes ok_Scope_takes (fun _ _ _ _ _ _ us hl => match us, hl with | [_, _], _ => rfl) ?_ (fun Y ws M Q E F hE h => ?_)
  · exact spTk_len
  · obtain ⟨A, S, s, S', rfl, hs, hf, h⟩ := h
    refine ⟨_, (ss_cons (s_if (QW.pt (w_or (t_cmp (o_eq F) (q_fld F T.k_Scope T.a_Scope_steps (q_var F 0)) (q_cst F 0 T.c_MOST_STEPS)) (w_or1 (t_cmp (o_eq F) (q_callB F 2 c_len T.n_len (by decide +kernel) (a_cons (q_fld F T.k_Scope T.a_Scope_begun (q_var F 0)) a_nil)) (q_cst F 1 T.c_MOST_DEEP_trees))))) (ss_one (s_ret q_bool)) ss_nil) (ss_cons (s_fldaug F T.k_Scope T.a_Scope_steps ip_add (q_var F 0) q_int) (ss_cons (s_set (q_ix (q_var F 1) q_int) (g_name F 2)) (ss_cons (s_if (t_cmp (o_in F) (q_var F 2) (q_tup (a_cons q_str (a_cons q_str a_nil)))) (ss_one (s_ret (q_methW rfl F T.k_Scope (d_Scope_knows T) (q_var F 0) (a_cons (q_ix (q_var F 1) q_int) a_nil)))) ss_nil) (ss_cons (s_if (t_cmp (o_eq F) (q_var F 2) q_str) (ss_one (s_ret (q_methW rfl F T.k_Scope (d_Scope_take_ask T) (q_var F 0) (a_cons (q_ix (q_var F 1) q_int) (a_cons (q_ix (q_var F 1) q_int) a_nil))))) ss_nil) (ss_cons (s_if (t_cmp (o_eq F) (q_var F 2) q_str) (ss_one (s_ret (q_methW rfl F T.k_Scope (d_Scope_take_each T) (q_var F 0) (a_cons (q_ix (q_var F 1) q_int) (a_cons (q_ix (q_var F 1) q_int) a_nil))))) ss_nil) (ss_cons (s_if (t_cmp (o_eq F) (q_var F 2) q_str) (ss_one (s_ret (q_methW rfl F T.k_Scope (d_Scope_take_leave T) (q_var F 0) (a_cons (q_ix (q_var F 1) q_int) (a_cons (q_ix (q_var F 1) q_int) a_nil))))) ss_nil) (ss_one (s_ret (q_ite (t_cmp (o_eq F) (q_var F 2) q_str) (q_methW rfl F T.k_Scope (d_Scope_take_if T) (q_var F 0) (a_cons (q_ix (q_var F 1) q_int) a_nil)) (q_methW rfl F T.k_Scope (d_Scope_take_part T) (q_var F 0) (a_cons (q_ix (q_var F 1) q_int) a_nil)))))))))))), ?_⟩
    have ok := hf.can
    have l1 := ok.2.1
    have l2 := ok.2.2
    refine ⟨A.a, _, _, rfl, hs.a, rfl, ?_⟩
    dsimp only [tK, k_MOST_STEPS]
    refine ⟨rfl, bqc false (by simp [PyData.eqv]; omega) ?_⟩
    refine ⟨A.a, _, _, rfl, hs.a, rfl, ?_⟩
    refine ⟨_, hs.b, ?_⟩
    dsimp only [tK, k_MOST_DEEP_trees]
    rw [beg_len]
    refine ⟨rfl, bqc false (by simp [PyData.eqv]; omega) ?_⟩
    refine iteF ?_
    refine ⟨A.a, _, _, rfl, hs.a, rfl, 1, _, rfl, hs.a, by show 5 < 1000; decide, ?_⟩
    rw [show (fun i j : Int => i + j) (S.steps : Int) 1 = ((S.steps + 1 : Nat) : Int) from rfl, put_steps]
    have hs1 := hs.tick
    have t := SOk.tick ok
    cases s with
    | ask n k =>
      obtain ⟨_, hn, hk, rfl⟩ := hf
      refine ⟨_, at0, sm2, by decide +kernel, bqc false (by decide +kernel) (iteF ?_)⟩
      refine ⟨rfl, bqc true (by decide +kernel) (iteT ?_)⟩
      exact ⟨A.a, _, rfl, hs1.a, rfl, _, at1, _, at2, A, S, n, k, rfl, hs1, ok, hn, hk, fun M' a f => h M' a (fr_a.trans f)⟩
    | con w c =>
      obtain ⟨_, hw, hc, rfl⟩ := hf
      refine ⟨_, at0, sm2, by rcases hw with rfl | rfl <;> decide +kernel, bqc true (by rcases hw with rfl | rfl <;> decide +kernel) (iteT ?_)⟩
      exact ⟨A.a, _, rfl, hs1.a, rfl, _, at1, A, S.tick, c, rfl, hs1, t, hc, h _ hs1 fr_a⟩
    | leave n c =>
      obtain ⟨_, hn, hm, hc, rfl⟩ := hf
      refine ⟨_, at0, sm2, by decide +kernel, bqc false (by decide +kernel) (iteF ?_)⟩
      refine ⟨rfl, bqc false (by decide +kernel) (iteF ?_)⟩
      refine ⟨rfl, bqc false (by decide +kernel) (iteF ?_)⟩
      refine ⟨rfl, bqc true (by decide +kernel) (iteT ?_)⟩
      exact ⟨A.a, _, rfl, hs1.a, rfl, _, at1, _, at2, A, S.tick, n, c, rfl, hs1, t, hn, hm, hc, h _ hs1 fr_a⟩
    | iff c a b =>
      obtain ⟨_, hc, rfl⟩ := hf
      refine ⟨_, at0, sm2, by decide +kernel, bqc false (by decide +kernel) (iteF ?_)⟩
      refine ⟨rfl, bqc false (by decide +kernel) (iteF ?_)⟩
      refine ⟨rfl, bqc false (by decide +kernel) (iteF ?_)⟩
      refine ⟨rfl, bqc false (by decide +kernel) (iteF ?_)⟩
      refine ⟨rfl, bqc true (by decide +kernel) (iteT ?_)⟩
      exact ⟨A.a, _, rfl, hs1.a, rfl, _, at1, A, S, c, rfl, hs1, ok, hc, fun M' a f => h M' a (fr_a.trans f)⟩
    | part n ss =>
      obtain ⟨_, hn, rfl⟩ := hf
      refine ⟨_, at0, sm2, by decide +kernel, bqc false (by decide +kernel) (iteF ?_)⟩
      refine ⟨rfl, bqc false (by decide +kernel) (iteF ?_)⟩
      refine ⟨rfl, bqc false (by decide +kernel) (iteF ?_)⟩
      refine ⟨rfl, bqc false (by decide +kernel) (iteF ?_)⟩
      refine ⟨rfl, bqc false (by decide +kernel) (iteF ?_)⟩
      exact ⟨A.a, _, rfl, hs1.a, rfl, _, at1, A, S, n, rfl, hs1, ok, hn, fun M' a f => h M' a (fr_a.trans f)⟩
    | each n q ss =>
      obtain ⟨_, hn, ho, hq, ⟨a, b, hl, hb⟩, rfl⟩ := hf
      refine ⟨_, at0, sm2, by decide +kernel, bqc false (by decide +kernel) (iteF ?_)⟩
      refine ⟨rfl, bqc false (by decide +kernel) (iteF ?_)⟩
      refine ⟨rfl, bqc true (by decide +kernel) (iteT ?_)⟩
      exact ⟨A.a, _, rfl, hs1.a, rfl, _, at1, _, at2, A, S, n, q, a, b, rfl, hs1, ok, hn, ho, hq, hl, hb, fun M' a f => h M' a (fr_a.trans f)⟩
/-- what was begun last is ended -/
def spCl (g : Gc) : SpD := fun ws M Q _ => ∃ A S b w n, ws = [.ref A.a] ∧ ScAt g M A S ∧ SOk S ∧ S.begun = b ++ [(w, n)] ∧ (∀ M', ScAt g M' A (if w == tEach then S.popE n else S.pop) → Fr A M M' → Q (.d .none) M')
theorem spCl_len {g : Gc} : ∀ ws M Q E, spCl g ws M Q E → ws.length = 1 := by rintro _ _ _ _ ⟨A, S, b, w, n, rfl, _⟩; rfl
theorem d_Scope_close {g : Gc} (T : Txt g) : DfM g 1 (clsA g "Scope") "close" ["self"] (spCl g) := by
  refine dfm_of (k := 0) (i := i_Scope_close) T.p_Scope_close T.sy sc_Scope_close ok_Scope_close (fun _ _ _ _ _ _ us hl => match us, hl with | [_], _ => rfl) ?_ (fun Y ws M Q E F hE h => ?_)
  · exact spCl_len
  · obtain ⟨A, S, b, w, n, rfl, hs, ok, hb, h⟩ := h
    refine ⟨_, (ss_cons (s_set (q_met0 m_pop (q_fld F T.k_Scope T.a_Scope_begun (q_var F 0))) (g_tup F (gs_cons (g_name F 1) (gs_cons (g_name F 2) gs_nil)))) (ss_one (s_if (t_cmp (o_eq F) (q_var F 1) q_str) (ss_one (s_set q_bool (g_sput F (q_fld F T.k_Scope T.a_Scope_ended (q_var F 0)) (q_var F 2)))) ss_nil))), ?_⟩
    have l1 := ok.le
    have l2 := ok.ls
    have eb : (begD S.begun).map W.d = (begD b).map W.d ++ [.d (.tuple [.str w, .str n])] := by rw [hb, beg_snoc]
    refine ⟨A.a, _, _, rfl, hs.a, rfl, ⟨_, hs.b⟩, ?_⟩
    refine ⟨_, hs.b, .d (.tuple [.str w, .str n]), by rw [eb]; simp, rfl, ?_⟩
    have ed : ((begD S.begun).map W.d).dropLast = (begD S.begun.dropLast).map W.d := by rw [eb, hb]; simp
    rw [ed]
    have hs1 := hs.beg S.begun.dropLast tNo
    cases he : w == tEach with
    | true =>
      refine ⟨rfl, bqc true (by rw [eqv_str]; exact he) (iteT ?_)⟩
      refine ⟨A.a, _, _, rfl, hs1.a, rfl, _, hs1.e, by rw [tr_len]; exact few (show S.ended.length ≤ 60 by omega), ?_⟩
      rw [show sPut (trW S.ended) n (.d (.bool true)) = trW (if S.ended.contains n = true then S.ended else S.ended ++ [n]) from put_tr _ _]
      rw [he] at h
      exact h _ (hs1.end_ _) (fr_b.trans fr_e)
    | false =>
      refine ⟨rfl, bqc false (by rw [eqv_str]; exact he) (iteF ?_)⟩
      rw [he] at h
      exact h _ (hs.beg S.begun.dropLast S.own) fr_b
def ConOk : Stp → Prop
  | .con w _ => w = "hard" ∨ w = "soft"
  | _ => True
def spHS : SpD := fun ws M Q _ => ∃ s, ws = [.d (stD s)] ∧ ConOk s ∧ Q (.d (.tuple [hdD s, .tuple (inD_ s)])) M
theorem spHS_len : ∀ ws M Q E, spHS ws M Q E → ws.length = 1 := by rintro _ _ _ _ ⟨s, rfl, _⟩; rfl
theorem d_heads_and_steps {g : Gc} (T : Txt g) : Df g 1 "heads_and_steps" ["step"] spHS := by
  refine df_of (k := 0) (i := i_heads_and_steps) T.p_heads_and_steps T.sy sc_heads_and_steps ok_heads_and_steps (fun _ _ _ _ _ _ us hl => match us, hl with | [_], _ => rfl) ?_ (fun Y ws M Q E F hE h => ?_)
  · exact spHS_len
  · obtain ⟨s, rfl, hc, h⟩ := h
    refine ⟨_, (ss_cons (s_if (t_cmp (o_eq F) (q_ix (q_var F 0) q_int) q_str) (ss_one (s_ret (q_tup (a_cons (q_sl (q_var F 0) o_no (o_sm q_int)) (a_cons (q_sl (q_var F 0) (o_sm q_int) o_no) a_nil))))) ss_nil) (ss_cons (s_if (t_cmp (o_in F) (q_ix (q_var F 0) q_int) (q_tup (a_cons q_str (a_cons q_str a_nil)))) (ss_one (s_ret (q_tup (a_cons (q_sl (q_var F 0) o_no (o_sm (q_neg q_int))) (a_cons (q_sl (q_var F 0) (o_sm (q_neg q_int)) o_no) a_nil))))) ss_nil) (ss_one (s_ret (q_tup (a_cons (q_var F 0) (a_cons (q_tup a_nil) a_nil))))))), ?_⟩
    cases s with
    | ask n k =>
      refine ⟨_, at0, rfl, bqc false (by decide +kernel) (iteF ?_)⟩
      refine ⟨_, at0, sm2, by decide +kernel, bqc false (by decide +kernel) (iteF ?_)⟩
      exact ⟨sm0, sm2, h⟩
    | con w c =>
      refine ⟨_, at0, rfl, bqc false (by rcases hc with rfl | rfl <;> decide +kernel) (iteF ?_)⟩
      refine ⟨_, at0, sm2, by rcases hc with rfl | rfl <;> decide +kernel, bqc false (by rcases hc with rfl | rfl <;> decide +kernel) (iteF ?_)⟩
      exact ⟨sm0, sm2, h⟩
    | leave n c =>
      refine ⟨_, at0, rfl, bqc false (by decide +kernel) (iteF ?_)⟩
      refine ⟨_, at0, sm2, by decide +kernel, bqc false (by decide +kernel) (iteF ?_)⟩
      exact ⟨sm0, sm2, h⟩
    | iff c a b =>
      refine ⟨_, at0, rfl, bqc true (by decide +kernel) (iteT ?_)⟩
      exact ⟨sm2, h⟩
    | part n ss =>
      refine ⟨_, at0, rfl, bqc false (by decide +kernel) (iteF ?_)⟩
      refine ⟨_, at0, sm2, by decide +kernel, bqc true (by decide +kernel) (iteT ?_)⟩
      exact ⟨sm2, h⟩
    | each n q ss =>
      refine ⟨_, at0, rfl, bqc false (by decide +kernel) (iteF ?_)⟩
      refine ⟨_, at0, sm2, by decide +kernel, bqc true (by decide +kernel) (iteT ?_)⟩
      exact ⟨sm2, h⟩
end Ms
set_option Elab.async false
set_option linter.all false
set_option maxRecDepth 100000
namespace Ms
open PySem PySem.Spec PyProof.Rows L2 Dl
def inS : Stp → List (List Stp)
  | .iff _ a b => [a, b]
  | .part _ ss => [ss]
  | .each _ _ ss => [ss]
  | _ => []
theorem inD_map : ∀ s : Stp, inD_ s = (inS s).map fun ss => .tuple (stDs ss)
  | .ask _ _ => rfl
  | .con _ _ => rfl
  | .leave _ _ => rfl
  | .iff _ _ _ => rfl
  | .part _ _ => rfl
  | .each _ _ _ => rfl
def FitLs : Sc → List (List Stp) → Sc → Prop
  | S, [], S' => S' = S
  | S, ss :: r, S' => ∃ S1, FitL S ss S1 ∧ FitLs S1 r S'
theorem fit_con {S S' : Sc} : ∀ {s : Stp}, FitS S s S' → ConOk s
  | .ask _ _, _ => trivial
  | .con _ _, h => h.2.1
  | .leave _ _, _ => trivial
  | .iff _ _ _, _ => trivial
  | .part _ _, _ => trivial
  | .each _ _ _, _ => trivial
theorem fit_split {S S' : Sc} : ∀ {s : Stp}, FitS S s S' → ∃ S1 S2, HdFit S s S1 ∧ FitLs S1 (inS s) S2 ∧ ((inS s = [] ∧ S' = S2) ∨ (inS s ≠ [] ∧ SOk S2 ∧ ∃ w n, S1.begun = S.begun ++ [(w, n)] ∧ S2.begun = S.begun ++ [(w, n)] ∧ S' = (if (w == tEach) = true then S2.popE n else S2.pop)))
  | .ask n k, h => by
    obtain ⟨c, nw, hk, rfl⟩ := h
    exact ⟨_, _, ⟨c, nw, hk, rfl⟩, rfl, .inl ⟨rfl, rfl⟩⟩
  | .con w c, h => by
    obtain ⟨c', hw, hc, rfl⟩ := h
    exact ⟨_, _, ⟨c', hw, hc, rfl⟩, rfl, .inl ⟨rfl, rfl⟩⟩
  | .leave n c, h => by
    obtain ⟨c', hn, hm, hc, rfl⟩ := h
    exact ⟨_, _, ⟨c', hn, hm, hc, rfl⟩, rfl, .inl ⟨rfl, rfl⟩⟩
  | .iff c a b, h => by
    obtain ⟨c', hc, S1, S2, h1, h2, rfl⟩ := h
    obtain ⟨o1, b1, w1, t1⟩ := fitL_ok a h1
    obtain ⟨o2, b2, w2, t2⟩ := fitL_ok b h2
    refine ⟨_, S2, ⟨c', hc, rfl⟩, ⟨S1, h1, S2, h2, rfl⟩, .inr ⟨by simp [inS], o2, tIf, tNo, rfl, b2.trans b1, ?_⟩⟩
    rw [if_neg (by decide +kernel)]
  | .part n ss, h => by
    obtain ⟨c', nw, S1, h1, rfl⟩ := h
    obtain ⟨o1, b1, w1, t1⟩ := fitL_ok ss h1
    refine ⟨_, S1, ⟨c', nw, rfl⟩, ⟨S1, h1, rfl⟩, .inr ⟨by simp [inS], o1, tPart, n, rfl, b1, ?_⟩⟩
    rw [if_neg (by decide +kernel)]
  | .each n q ss, h => by
    obtain ⟨c', nw, ho, hq, hl, S1, h1, rfl⟩ := h
    obtain ⟨o1, b1, w1, t1⟩ := fitL_ok ss h1
    refine ⟨_, S1, ⟨c', nw, ho, hq, hl, rfl⟩, ⟨S1, h1, rfl⟩, .inr ⟨by simp [inS], o1, tEach, n, rfl, b1, ?_⟩⟩
    rw [if_pos (beq_self_eq_true _)]
theorem inD_lay : ∀ {s : Stp}, (stD s).canLay0 = true → (PyData.tuple (inD_ s)).canLay0 = true
  | .ask _ _, _ => rfl
  | .con _ _, _ => rfl
  | .leave _ _, _ => rfl
  | .iff _ _ _, h => by
    simp only [stD, PyData.canLay0, PyData.canLayAll0, Bool.and_eq_true, inD_] at h ⊢
    exact h.2.2
  | .part _ _, h => by
    simp only [stD, PyData.canLay0, PyData.canLayAll0, Bool.and_eq_true, inD_] at h ⊢
    exact h.2.2
  | .each _ _ _, h => by
    simp only [stD, PyData.canLay0, PyData.canLayAll0, Bool.and_eq_true, inD_] at h ⊢
    exact h.2.2.2
theorem fitLs_beg : ∀ (l : List (List Stp)) {S S' : Sc}, FitLs S l S' → S'.begun = S.begun
  | [], S, S', h => by rw [show S' = S from h]
  | ss :: r, S, S', h => by
    obtain ⟨S1, h1, h2⟩ := h
    rw [fitLs_beg r h2, (fitL_ok ss h1).2.1]
/-- a step that may come next, at most n deep within -/
def spSt (g : Gc) (n : Nat) : SpD := fun ws M Q _ => ∃ A S s S', ws = [.ref A.a, .d (stD s)] ∧ ScAt g M A S ∧ FitS S s S' ∧ 5 ≤ S.begun.length + n ∧ ∀ M', ScAt g M' A S' → Fr A M M' → Q (.d (.bool true)) M'
def spSs (g : Gc) (n : Nat) : SpD := fun ws M Q _ => ∃ A S ss S', ws = [.ref A.a, .d (.tuple (stDs ss))] ∧ ScAt g M A S ∧ FitL S ss S' ∧ 5 ≤ S.begun.length + n ∧ ∀ M', ScAt g M' A S' → Fr A M M' → Q (.d (.bool true)) M'
def spSs' (g : Gc) : Nat → SpD | 0 => spNo | n + 1 => spSs g n
theorem spSt_len {g n} : ∀ ws M Q E, spSt g n ws M Q E → ws.length = 2 := by rintro _ _ _ _ ⟨A, S, s, S', rfl, _⟩; rfl
theorem spSs_len {g n} : ∀ ws M Q E, spSs g n ws M Q E → ws.length = 2 := by rintro _ _ _ _ ⟨A, S, s, S', rfl, _⟩; rfl
theorem ss_of {g : Gc} (T : Txt g) (n : Nat) (DT : Df g (22 + 2 * n) "step_fits" ["scope", "step"] (spSt g n)) : Df g (22 + 2 * n + 1) "steps_fit" ["scope", "steps"] (spSs g n) := by
  refine df_of (k := 22 + 2 * n) (i := i_steps_fit) T.p_steps_fit T.sy sc_steps_fit ok_steps_fit (fun _ _ _ _ _ _ us hl => match us, hl with | [_, _], _ => rfl) spSs_len (fun Y ws M Q E F hE h => ?_)
  obtain ⟨A, S, ss, S', rfl, hs, hf, h5, h⟩ := h
  refine ⟨_, (ss_cons (s_if (t_not (t_val (q_isi F 0 1 isk_tuple T.n_isinstance T.n_tuple (by decide +kernel) (q_var F 1)))) (ss_one (s_ret q_bool)) ss_nil) (ss_cons (s_for F (i_tup (q_var F 1)) (g_name F 2) (ss_one (s_if (t_not (t_val (q_call F 2 DT (a_cons (q_var F 0) (a_cons (q_var F 2) a_nil))))) (ss_one (s_ret q_bool)) ss_nil))) (ss_one (s_ret q_bool)))), ?_⟩
  refine ⟨fun j σ M' => ∃ S1 x, σ = [some (.ref A.a), some (.d (.tuple (stDs ss))), x] ∧ ScAt g M' A S1 ∧ Fr A M M' ∧ FitL S1 (ss.drop j) S' ∧ 5 ≤ S1.begun.length + n, ⟨S, _, rfl, hs, Fr.refl _ _, hf, h5⟩, fun _ _ _ _ => trivial, ?_, ?_⟩
  · rintro j w σ M1 hj ⟨S1, x, rfl, hs1, f1, hf1, h51⟩
    obtain ⟨d, rfl, hd⟩ := getElem?_mapd hj
    rw [stDs_map, List.getElem?_map] at hd
    cases e : ss[j]? with
    | none => rw [e] at hd; cases hd
    | some s =>
      rw [e] at hd
      cases hd
      have hlt : j < ss.length := (List.getElem?_eq_some_iff.mp e).1
      have ed : ss.drop j = s :: ss.drop (j + 1) := by
        rw [List.drop_eq_getElem_cons hlt]
        rw [List.getElem?_eq_getElem hlt] at e
        rw [Option.some.inj e]
      rw [ed] at hf1
      obtain ⟨S2, g1, g2⟩ := hf1
      refine ⟨A, S1, s, S2, rfl, hs1, g1, h51, fun M2 hs2 f2 => ?_⟩
      refine bqc true rfl ?_
      refine iteF ?_
      exact ⟨S2, _, rfl, hs2, f1.trans f2, g2, by rw [(fitS_ok s g1).2.1]; exact h51⟩
  · rintro σ M1 ⟨S1, x, rfl, hs1, f1, hf1, h51⟩
    rw [show ss.drop ((stDs ss).map W.d).length = [] by rw [stDs_map, List.length_map, List.length_map, List.drop_length]] at hf1
    obtain ⟨_, rfl⟩ := hf1
    exact h _ hs1 f1
theorem st_of {g : Gc} (T : Txt g) (n m : Nat) (lm : m ≤ 21 + 2 * n) (DS : Df g m "steps_fit" ["scope", "steps"] (spSs' g n)) : Df g (21 + 2 * n + 1) "step_fits" ["scope", "step"] (spSt g n) := by
  refine df_of (k := 21 + 2 * n) (i := i_step_fits) T.p_step_fits T.sy sc_step_fits ok_step_fits (fun _ _ _ _ _ _ us hl => match us, hl with | [_, _], _ => rfl) spSt_len (fun Y ws M Q E F hE h => ?_)
  obtain ⟨A, S, s, S', rfl, hs, hf, h5, h⟩ := h
  refine ⟨_, (ss_cons (s_if (QW.pt (w_or (t_not (t_val (q_isi F 1 2 isk_tuple T.n_isinstance T.n_tuple (by decide +kernel) (q_var F 1)))) (w_or (t_cmp (o_eq F) (q_var F 1) (q_tup a_nil)) (w_or (t_not (t_val (q_isi F 1 3 isk_str T.n_isinstance T.n_str (by decide +kernel) (q_ix (q_var F 1) q_int)))) (w_or1 (t_cmp (o_ne F) (q_kget F 6 T.v_PARTS.choose_spec (q_ix (q_var F 1) q_int)) (q_callB F 4 c_len T.n_len (by decide +kernel) (a_cons (q_var F 1) a_nil)))))))) (ss_one (s_ret q_bool)) ss_nil) (ss_cons (s_set (q_call F 0 (d_heads_and_steps T) (a_cons (q_var F 1) a_nil)) (g_tup F (gs_cons (g_name F 2) (gs_cons (g_name F 3) gs_nil)))) (ss_cons (s_if (t_not (t_val (q_methW rfl F T.k_Scope (d_Scope_takes T) (q_var F 0) (a_cons (q_var F 2) a_nil)))) (ss_one (s_ret q_bool)) ss_nil) (ss_cons (s_for F (i_tup (q_var F 3)) (g_name F 4) (ss_one (s_if (t_not (t_val (q_call F 5 DS (a_cons (q_var F 0) (a_cons (q_var F 4) a_nil))))) (ss_one (s_ret q_bool)) ss_nil))) (ss_cons (s_if (t_cmp (o_ne F) (q_var F 3) (q_tup a_nil)) (ss_one (s_expr (q_meth0W rfl F T.k_Scope (d_Scope_close T) (q_var F 0)))) ss_nil) (ss_one (s_ret q_bool))))))), ?_⟩
  have lay := fitS_lay s hf
  have con := fit_con hf
  obtain ⟨S1, S2, hh, hl, hend⟩ := fit_split hf
  have can := hh.can.2.2
  obtain ⟨n, rfl⟩ : ∃ n', n = n' + 1 := ⟨n - 1, by omega⟩
  have first : (match stD s with | .tuple (.str t :: r) => kv_PARTS.lookup t = some (.int ((r.length + 1 : Nat) : Int)) | _ => False) := by
    cases s with
    | con w c =>
      rcases con with rfl | rfl
      · exact (rfl : kv_PARTS.lookup ("hard" : Str) = some (.int ((1 + 1 : Nat) : Int)))
      · exact (rfl : kv_PARTS.lookup ("soft" : Str) = some (.int ((1 + 1 : Nat) : Int)))
    | ask n k => exact (rfl : kv_PARTS.lookup ("ask" : Str) = some (.int ((2 + 1 : Nat) : Int)))
    | leave n k => exact (rfl : kv_PARTS.lookup ("leave" : Str) = some (.int ((2 + 1 : Nat) : Int)))
    | iff c a b => exact (rfl : kv_PARTS.lookup ("if" : Str) = some (.int ((3 + 1 : Nat) : Int)))
    | part n k => exact (rfl : kv_PARTS.lookup ("part" : Str) = some (.int ((2 + 1 : Nat) : Int)))
    | each n q k => exact (rfl : kv_PARTS.lookup ("each" : Str) = some (.int ((3 + 1 : Nat) : Int)))
  have lay2 := inD_lay lay.l
  generalize hd : stD s = x at first lay ⊢
  split at first
  case h_2 => exact first.elim
  rename_i t r
  refine ⟨sm0, by simp [eqOk, isTup], ?_⟩
  refine bqc false eqv_tup_nil ?_
  refine iteF ?_
  refine ⟨_, at0, ?_⟩
  refine ⟨_, at0, ?_⟩
  dsimp only
  rw [first]
  refine ⟨by simp [neOk, PyData.canLay0, PyData.depth], ?_⟩
  refine bqc false (by simp [PyData.eqv]) ?_
  refine iteF ?_
  refine ⟨s, by rw [hd], con, ?_⟩
  refine ⟨rfl, A.a, _, rfl, hs.a, rfl, A, S, s, S1, rfl, hs, hh, fun M1 hs1 f1 => ?_⟩
  refine bqc true rfl ?_
  refine iteF ?_
  have inl : ∀ ss ∈ inS s, ∃ w n, S1.begun = S.begun ++ [(w, n)] := by
    intro ss hm
    rcases hend with ⟨e, _⟩ | ⟨_, _, w, n, e, _⟩
    · rw [e] at hm; cases hm
    · exact ⟨w, n, e⟩
  refine ⟨fun j σ M' => ∃ Sj x, σ = [some (.ref A.a), some (.d (.tuple (.str t :: r))), some (.d (hdD s)), some (.d (.tuple (inD_ s))), x] ∧ ScAt g M' A Sj ∧ Fr A M M' ∧ FitLs Sj ((inS s).drop j) S2 ∧ Sj.begun = S1.begun, ⟨S1, _, rfl, hs1, f1, hl, rfl⟩, fun _ _ _ _ => trivial, ?_, ?_⟩
  · rintro j w σ M2 hj ⟨Sj, x, rfl, hs2, f2, hl2, hb2⟩
    obtain ⟨d, rfl, hd2⟩ := getElem?_mapd hj
    rw [inD_map, List.getElem?_map] at hd2
    cases e : (inS s)[j]? with
    | none => rw [e] at hd2; cases hd2
    | some ss =>
      rw [e] at hd2
      cases hd2
      have hlt : j < (inS s).length := (List.getElem?_eq_some_iff.mp e).1
      have ed : (inS s).drop j = ss :: (inS s).drop (j + 1) := by
        rw [List.drop_eq_getElem_cons hlt]
        rw [List.getElem?_eq_getElem hlt] at e
        rw [Option.some.inj e]
      rw [ed] at hl2
      obtain ⟨Sk, g1, g2⟩ := hl2
      obtain ⟨w, nm, eb⟩ := inl ss (List.mem_of_getElem? e)
      refine ⟨A, Sj, ss, Sk, rfl, hs2, g1, ?_, fun M3 hs3 f3 => ?_⟩
      · rw [hb2, eb, List.length_append]
        simp only [List.length_cons, List.length_nil]
        omega
      refine bqc true rfl ?_
      refine iteF ?_
      exact ⟨Sk, _, rfl, hs3, f2.trans f3, g2, by rw [(fitL_ok ss g1).2.1]; exact hb2⟩
  · rintro σ M2 ⟨Sj, x, rfl, hs2, f2, hl2, hb2⟩
    rw [show (inS s).drop ((inD_ s).map W.d).length = [] by rw [inD_map, List.length_map, List.length_map, List.drop_length]] at hl2
    obtain rfl : S2 = Sj := hl2
    have ne : neOk (.tuple (inD_ s)) (.tuple []) = true := by
      unfold neOk
      rw [lay2]
      simp [bothS, PyData.canLay0, PyData.canLayAll0, PyData.depth, PyData.depthAll]
    refine ⟨sm0, ne, ?_⟩
    have ev : PyData.eqv (.tuple (inD_ s)) (.tuple []) = (inS s).isEmpty := by
      rw [eqv_tup_nil, inD_map]
      cases inS s <;> rfl
    rcases hend with ⟨e, rfl⟩ | ⟨e, ok2, w, nm, _, hb, rfl⟩
    · refine bqc false (by rw [ev, e]; rfl) (iteF ?_)
      exact h _ hs2 f2
    · refine bqc true (by rw [ev]; cases q : inS s with | nil => exact absurd q e | cons _ _ => rfl) (iteT ?_)
      exact ⟨A.a, _, rfl, hs2.a, rfl, A, S2, S.begun, w, nm, rfl, hs2, ok2, hb, fun M' a f => h _ a (f2.trans f)⟩
theorem no_fit {g : Gc} (T : Txt g) : Df g 20 "steps_fit" ["scope", "steps"] (spSs' g 0) :=
  df_of (k := 19) (i := i_steps_fit) T.p_steps_fit T.sy sc_steps_fit ok_steps_fit (fun _ _ _ _ _ _ us hl => match us, hl with | [_, _], _ => rfl) (fun _ _ _ _ (h : False) => h.elim) (fun _ _ _ _ _ _ _ (h : False) => h.elim)
theorem d_fits {g : Gc} (T : Txt g) : ∀ n : Nat, Df g (23 + 2 * n) "steps_fit" ["scope", "steps"] (spSs g n) ∧ Df g (22 + 2 * n) "step_fits" ["scope", "step"] (spSt g n)
  | 0 => by
    have b := st_of T 0 20 (by decide) (no_fit T)
    exact ⟨ss_of T 0 b, b⟩
  | n + 1 => by
    have b := st_of T (n + 1) (23 + 2 * n) (by omega) (d_fits T n).1
    have e : 21 + 2 * (n + 1) + 1 = 22 + 2 * (n + 1) := by omega
    have b : Df g (22 + 2 * (n + 1)) "step_fits" ["scope", "step"] (spSt g (n + 1)) := by rw [← e]; exact b
    have c := ss_of T (n + 1) b
    have e2 : 22 + 2 * (n + 1) + 1 = 23 + 2 * (n + 1) := by omega
    exact ⟨by rw [← e2]; exact c, b⟩
theorem mset_none {M : MH} {a b : Addr} {o : O} (h : mset M a o b = none) : b ≠ a ∧ M b = none := by
  by_cases e : b = a
  · subst e; rw [mset_same] at h; cases h
  · exact ⟨e, by rw [mset_ne e] at h; exact h⟩
theorem putD_len {f : Str} {w : W} : ∀ fs : List (Str × W), (putD f w fs).length ≤ fs.length + 1
  | [] => Nat.le_refl _
  | (g, x) :: r => by
    unfold putD
    split
    · simp
    · have := putD_len (f := f) (w := w) r
      simp only [List.length_cons]
      omega
theorem put_le {f : Str} {w : W} {fs : List (Str × W)} {n : Nat} (h : fs.length ≤ n) : (putD f w fs).length ≤ n + 1 := Nat.le_trans (putD_len fs) (Nat.succ_le_succ h)
theorem put_all (A : Ad) : putD fSteps (.d (.int 0)) (putD fBegun (.ref A.b) (putD fEnded (.ref A.e) (putD fNamed (.ref A.n) (putD fAsked (.ref A.s) [])))) = flds A 0 := by
  have h1 : fAsked ≠ fNamed := by decide +kernel
  have h2 : fAsked ≠ fEnded := by decide +kernel
  have h3 : fAsked ≠ fBegun := by decide +kernel
  have h4 : fAsked ≠ fSteps := by decide +kernel
  have h5 : fNamed ≠ fEnded := by decide +kernel
  have h6 : fNamed ≠ fBegun := by decide +kernel
  have h7 : fNamed ≠ fSteps := by decide +kernel
  have h8 : fEnded ≠ fBegun := by decide +kernel
  have h9 : fEnded ≠ fSteps := by decide +kernel
  have h0 : fBegun ≠ fSteps := by decide +kernel
  simp only [putD, if_neg h1, if_neg h2, if_neg h3, if_neg h4, if_neg h5, if_neg h6, if_neg h7, if_neg h8, if_neg h9, if_neg h0]
  rfl
/-- a new scope -/
def spIn0 (g : Gc) : SpD := fun ws M Q _ => ∃ p, ws = [.ref p] ∧ M p = some (.ins (clsA g cScope) []) ∧ ∀ A M', A.a = p → ScAt g M' A s0 → (∀ b o, b ≠ p → M b = some o → M' b = some o ∧ b ≠ A.s ∧ b ≠ A.n ∧ b ≠ A.e ∧ b ≠ A.b) → Q (.d .none) M'
theorem spIn0_len {g : Gc} : ∀ ws M Q E, spIn0 g ws M Q E → ws.length = 1 := by rintro _ _ _ _ ⟨p, rfl, _⟩; rfl
theorem d_Scope_init {g : Gc} (T : Txt g) : MkM g 1 "Scope" ["self"] (spIn0 g) := by
  refine mkm_of (k := 0) (i := i_Scope_init) T.p_Scope_init T.sy sc_Scope_init ok_Scope_init (fun _ _ _ _ _ _ us hl => match us, hl with | [_], _ => rfl) ?_ (fun Y ws M Q E F hE h => ?_)
  · exact spIn0_len
  · obtain ⟨p, rfl, hp, h⟩ := h
    refine ⟨_, (ss_cons (s_fld F T.k_Scope T.a_Scope_asked (q_var F 0) (q_snew F)) (ss_cons (s_fld F T.k_Scope T.a_Scope_named (q_var F 0) (q_snew F)) (ss_cons (s_fld F T.k_Scope T.a_Scope_ended (q_var F 0) (q_snew F)) (ss_cons (s_fld F T.k_Scope T.a_Scope_begun (q_var F 0) (q_lstM a_nil)) (ss_one (s_fld F T.k_Scope T.a_Scope_steps (q_var F 0) q_int)))))), ?_⟩
    intro a na
    have pa : p ≠ a := by rintro rfl; rw [hp] at na; cases na
    refine ⟨p, _, rfl, by rw [mset_ne pa]; exact hp, by decide, ?_⟩
    intro n nn
    obtain ⟨np, nn⟩ := mset_none nn
    obtain ⟨na', nn⟩ := mset_none nn
    refine ⟨p, _, rfl, by rw [mset_ne np.symm]; exact mset_same, by show 1 < 1000; decide, ?_⟩
    intro e ne
    obtain ⟨ep, ne⟩ := mset_none ne
    obtain ⟨en, ne⟩ := mset_none ne
    obtain ⟨_, ne⟩ := mset_none ne
    obtain ⟨ea, ne⟩ := mset_none ne
    refine ⟨p, _, rfl, by rw [mset_ne ep.symm]; exact mset_same, Nat.lt_of_le_of_lt (put_le (n := 1) (put_le (n := 0) (Nat.le_refl _))) (by decide), ?_⟩
    refine ⟨sm0, fun b nb => ?_⟩
    obtain ⟨bp, nb⟩ := mset_none nb
    obtain ⟨be, nb⟩ := mset_none nb
    obtain ⟨_, nb⟩ := mset_none nb
    obtain ⟨bn, nb⟩ := mset_none nb
    obtain ⟨_, nb⟩ := mset_none nb
    obtain ⟨ba, nb⟩ := mset_none nb
    refine ⟨p, _, rfl, by rw [mset_ne bp.symm]; exact mset_same, Nat.lt_of_le_of_lt (put_le (n := 2) (put_le (n := 1) (put_le (n := 0) (Nat.le_refl _)))) (by decide), ?_⟩
    refine ⟨p, _, rfl, mset_same, Nat.lt_of_le_of_lt (put_le (n := 3) (put_le (n := 2) (put_le (n := 1) (put_le (n := 0) (Nat.le_refl _))))) (by decide), ?_⟩
    refine h ⟨p, a, n, e, b⟩ _ rfl ⟨?_, ?_, ?_, ?_, ?_, na'.symm, ea.symm, en.symm⟩ fun x o hx hxo => ?_
    · show mset _ p _ p = _
      rw [mset_same]
      exact congrArg some (congrArg (O.ins _) (put_all ⟨p, a, n, e, b⟩))
    · show mset _ p _ a = _
      rw [mset_ne pa.symm, mset_ne pa.symm, mset_ne ba.symm, mset_ne pa.symm, mset_ne ea.symm, mset_ne pa.symm, mset_ne na'.symm, mset_ne pa.symm, mset_same]
      rfl
    · show mset _ p _ n = _
      rw [mset_ne np, mset_ne np, mset_ne bn.symm, mset_ne np, mset_ne en.symm, mset_ne np, mset_same]
      rfl
    · show mset _ p _ e = _
      rw [mset_ne ep, mset_ne ep, mset_ne be.symm, mset_ne ep, mset_same]
      rfl
    · show mset _ p _ b = _
      rw [mset_ne bp, mset_ne bp, mset_same]
      rfl
    · have xa : x ≠ a := by rintro rfl; rw [na] at hxo; cases hxo
      have xn : x ≠ n := by rintro rfl; rw [nn] at hxo; cases hxo
      have xe : x ≠ e := by rintro rfl; rw [ne] at hxo; cases hxo
      have xb : x ≠ b := by rintro rfl; rw [nb] at hxo; cases hxo
      exact ⟨by rw [mset_ne hx, mset_ne hx, mset_ne xb, mset_ne hx, mset_ne xe, mset_ne hx, mset_ne xn, mset_ne hx, mset_ne xa]; exact hxo, xa, xn, xe, xb⟩
/-- a form is known -/
def spFm : SpD := fun ws M Q _ => ∃ ss, ws = [.d (.tuple (stDs ss))] ∧ IsForm ss ∧ ∀ M', Keep M M' → Q (.d (.bool true)) M'
theorem spFm_len : ∀ ws M Q E, spFm ws M Q E → ws.length = 1 := by rintro _ _ _ _ ⟨p, rfl, _⟩; rfl
theorem d_is_form {g : Gc} (T : Txt g) : Df g 34 "is_form" ["thing"] spFm := by
  refine df_of (k := 33) (i := i_is_form) T.p_is_form T.sy sc_is_form ok_is_form (fun _ _ _ _ _ _ us hl => match us, hl with | [_], _ => rfl) ?_ (fun Y ws M Q E F hE h => ?_)
  · exact spFm_len
  · obtain ⟨ss, rfl, ⟨S', hf⟩, h⟩ := h
    refine ⟨_, (ss_one (s_ret (q_call F 0 (d_fits T 5).1 (a_cons (q_make0W rfl F 1 (d_Scope_init T)) (a_cons (q_var F 0) a_nil))))), ?_⟩
    intro p np
    refine ⟨p, rfl, mset_same, fun A M1 ha hs k => ⟨rfl, A, s0, ss, S', ?_, hs, hf, by decide, fun M2 hs2 f2 => h _ fun b o e => ?_⟩⟩
    · rw [ha]
    · have bp : b ≠ p := by rintro rfl; rw [np] at e; cases e
      obtain ⟨k1, k2, k3, k4, k5⟩ := k b o bp (by rw [mset_ne bp]; exact e)
      exact f2 b o (by rw [ha]; exact bp) k2 k3 k4 k5 k1
/-- what is no form is refused -/
def spNF : SpD := fun ws M Q _ => ∃ ss, ws = [.d (.tuple (stDs ss))] ∧ IsForm ss ∧ ∀ M', Keep M M' → Q (.d .none) M'
theorem spNF_len : ∀ ws M Q E, spNF ws M Q E → ws.length = 1 := by rintro _ _ _ _ ⟨p, rfl, _⟩; rfl
theorem d_need_form {g : Gc} (T : Txt g) : Df g 35 "need_form" ["thing"] spNF := by
  refine df_of (k := 34) (i := i_need_form) T.p_need_form T.sy sc_need_form ok_need_form (fun _ _ _ _ _ _ us hl => match us, hl with | [_], _ => rfl) ?_ (fun Y ws M Q E F hE h => ?_)
  · exact spNF_len
  · obtain ⟨ss, rfl, hf, h⟩ := h
    refine ⟨_, (ss_one (s_if (t_not (t_val (q_call F 0 (d_is_form T) (a_cons (q_var F 0) a_nil)))) (ss_one s_raise) ss_nil)), ?_⟩
    refine ⟨ss, rfl, hf, fun M1 k => ?_⟩
    refine bqc true rfl ?_
    refine iteF ?_
    exact h M1 k
end Ms
set_option Elab.async false
set_option linter.all false
set_option maxRecDepth 100000
namespace Ms
open PySem PySem.Spec PyProof.Rows L2 Dl
/-! ### texts of forms -/
theorem sapp (a b c : Str) : a ++ b ++ c = a ++ (b ++ c) := by
  show (⟨(a.cps ++ b.cps) ++ c.cps⟩ : Str) = ⟨a.cps ++ (b.cps ++ c.cps)⟩
  rw [Array.append_assoc]
abbrev sp_ : Str := " "
abbrev tNot : Str := "not"
abbrev tOp : Str := "("
abbrev tCl : Str := ")"
abbrev tEnd : Str := "end"
abbrev tElse : Str := "else"
theorem join_one (s x : Str) : Txt.join s [x] = x := by rw [TL.join_eq]; rfl
theorem join_two (s x y : Str) (r : List Str) : Txt.join s (x :: y :: r) = x ++ s ++ Txt.join s (y :: r) := by rw [TL.join_eq, TL.join_eq]; rfl
theorem join_cons {s x : Str} {r : List Str} (h : r ≠ []) : Txt.join s (x :: r) = x ++ s ++ Txt.join s r := by
  cases r with
  | nil => exact absurd rfl h
  | cons y r => exact join_two s x y r
theorem join_app {s : Str} : ∀ {l m : List Str}, l ≠ [] → m ≠ [] → Txt.join s (l ++ m) = Txt.join s l ++ s ++ Txt.join s m
  | [x], m, _, hm => by rw [List.singleton_append, join_cons hm, join_one]
  | x :: y :: r, m, _, hm => by
    rw [List.cons_append, join_cons (by simp), join_app (l := y :: r) (by simp) hm, join_two, sapp, sapp, sapp, sapp, sapp]
theorem join_len (s : Str) (l : List Str) : (Txt.join s l).length ≤ (l.map (·.length)).sum + l.length * s.length := by
  have := PySem.size_glued s l
  have e : (Txt.join s l).length = (l.map (·.length)).sum + (l.length - 1) * s.length := this
  rw [e]
  have : (l.length - 1) * s.length ≤ l.length * s.length := Nat.mul_le_mul_right _ (Nat.sub_le _ _)
  omega
theorem sum_le {l : List Str} {n : Nat} (h : ∀ z ∈ l, z.length ≤ n) : (l.map (·.length)).sum ≤ l.length * n := by
  induction l with
  | nil => exact Nat.zero_le _
  | cons z l ih =>
    have a := h z List.mem_cons_self
    have b := ih fun x hx => h x (List.mem_cons_of_mem _ hx)
    rw [List.map_cons, List.sum_cons, List.length_cons, Nat.add_mul]
    omega
theorem join_le {s : Str} {l : List Str} {n k : Nat} (h : ∀ z ∈ l, z.length ≤ n) (hk : s.length ≤ k) : (Txt.join s l).length ≤ l.length * (n + k) := by
  have a := join_len s l
  have b := sum_le h
  have c : l.length * s.length ≤ l.length * k := Nat.mul_le_mul_left _ hk
  rw [Nat.mul_add]
  omega
theorem len_app (a b : Str) : (a ++ b).length = a.length + b.length := by
  show (a.cps ++ b.cps).size = _
  rw [Array.size_append]
  rfl
def shI (n : Int) : Str := toString n
def strY : PyData → Str
  | .str z => z
  | .int n => shI n
  | _ => ""
theorem shI_len {n : Int} (h0 : 0 ≤ n) (h1 : n ≤ 1000000) : (shI n).length ≤ 25 := by
  have := int_show_le (i := n) (n := 20) (by rw [show (2 : Nat) ^ 20 = 1048576 by decide]; omega) (by decide)
  exact Nat.le_trans (show (PyData.shown (.int n)).length ≤ 21 from this) (by decide)
mutual
/-- the words of a condition -/
def cnW : Cn → List Str
  | .pc w n y => [n, w, strY y]
  | .nt c => tNot :: cnW c
  | .jn w cs => tOp :: ((cnWs w cs).drop 1 ++ [tCl])
  | .an w n c => w :: n :: cnW c
def cnWs (w : Str) : List Cn → List Str
  | [] => []
  | c :: r => w :: (cnW c ++ cnWs w r)
end
def cnT (c : Cn) : Str := Txt.join sp_ (cnW c)
def wB : Nat → Nat
  | 0 => 0
  | d + 1 => 3 * wB d + 4
theorem cnW_ne : ∀ c : Cn, cnW c ≠ []
  | .pc _ _ _ => by simp [cnW]
  | .nt _ => by simp [cnW]
  | .jn _ _ => by simp [cnW]
  | .an _ _ _ => by simp [cnW]
theorem strY_len {w : Str} {y : PyData} {k : Kd} (h : PcFit w y k) (hk : KdOk k) : (strY y).length ≤ 25 ∧ w.length ≤ 25 := by
  cases k with
  | pick zs =>
    obtain ⟨rfl, z, hz, rfl⟩ := h
    exact ⟨Nat.le_trans (name_len8 (hk.nm z hz)) (by decide), by decide +kernel⟩
  | some zs =>
    obtain ⟨rfl, z, hz, rfl⟩ := h
    exact ⟨Nat.le_trans (name_len8 (hk.nm z hz)) (by decide), by decide +kernel⟩
  | count a b =>
    obtain ⟨hw, m, rfl, m0, m1⟩ := h
    exact ⟨shI_len m0 m1, by rcases hw with rfl | rfl <;> decide +kernel⟩
theorem cnW_b {S : Sc} {own : Str} {wh : Bool} {d : Nat} {c : Cn} (h : CnG S own wh d c) : (cnW c).length ≤ wB d ∧ ∀ z ∈ cnW c, z.length ≤ 25 := by
  induction h with
  | @pc own wh d w n y k r e1 e2 e3 e4 e5 =>
    obtain ⟨a, b⟩ := strY_len e3 e5
    refine ⟨?_, ?_⟩
    · show 3 ≤ 3 * wB d + 4
      omega
    · intro z hz
      simp only [cnW, List.mem_cons, List.not_mem_nil, or_false] at hz
      rcases hz with rfl | rfl | rfl
      · exact Nat.le_trans (name_len8 e4) (by decide)
      · exact b
      · exact a
  | @nt own wh d c h ih =>
    refine ⟨?_, ?_⟩
    · show (cnW c).length + 1 ≤ 3 * wB d + 4
      have := ih.1
      omega
    · intro z hz
      rcases List.mem_cons.mp hz with rfl | hz
      · decide +kernel
      · exact ih.2 z hz
  | @jn own wh d w cs hw h2 h3 hc ih =>
    have lw : w.length ≤ 25 := by rcases hw with rfl | rfl <;> decide +kernel
    have g : ∀ l : List Cn, (∀ c ∈ l, (cnW c).length ≤ wB d ∧ ∀ z ∈ cnW c, z.length ≤ 25) → (cnWs w l).length ≤ l.length * (wB d + 1) ∧ ∀ z ∈ cnWs w l, z.length ≤ 25 := by
      intro l
      induction l with
      | nil => intro _; exact ⟨Nat.zero_le _, by simp [cnWs]⟩
      | cons c l ihl =>
        intro hh
        obtain ⟨a, b⟩ := ihl fun x hx => hh x (List.mem_cons_of_mem _ hx)
        obtain ⟨a2, b2⟩ := hh c List.mem_cons_self
        constructor
        · show (w :: (cnW c ++ cnWs w l)).length ≤ (l.length + 1) * (wB d + 1)
          rw [List.length_cons, List.length_append, Nat.add_mul]
          omega
        · intro z hz
          rcases List.mem_cons.mp (show z ∈ w :: (cnW c ++ cnWs w l) from hz) with rfl | hz
          · exact lw
          · rcases List.mem_append.mp hz with hz | hz
            · exact b2 z hz
            · exact b z hz
    obtain ⟨a, b⟩ := g cs ih
    constructor
    · show (tOp :: ((cnWs w cs).drop 1 ++ [tCl])).length ≤ 3 * wB d + 4
      rw [List.length_cons, List.length_append, List.length_drop]
      have : cs.length * (wB d + 1) ≤ 3 * (wB d + 1) := Nat.mul_le_mul_right _ h3
      simp only [List.length_cons, List.length_nil]
      omega
    · intro z hz
      rcases List.mem_cons.mp (show z ∈ tOp :: ((cnWs w cs).drop 1 ++ [tCl]) from hz) with rfl | hz
      · decide +kernel
      · rcases List.mem_append.mp hz with hz | hz
        · exact b z (List.mem_of_mem_drop hz)
        · rw [List.mem_singleton.mp hz]; decide +kernel
  | @an own d w n c hw he hn h ih =>
    refine ⟨?_, ?_⟩
    · show (cnW c).length + 1 + 1 ≤ 3 * wB d + 4
      have := ih.1
      omega
    · intro z hz
      rcases List.mem_cons.mp hz with rfl | hz
      · rcases hw with rfl | rfl <;> decide +kernel
      · rcases List.mem_cons.mp hz with rfl | hz
        · exact Nat.le_trans (name_len8 hn) (by decide)
        · exact ih.2 z hz
theorem wB_le : ∀ {d : Nat}, d ≤ 3 → wB d ≤ 52
  | 0, _ => by decide
  | 1, _ => by decide
  | 2, _ => by decide
  | 3, _ => by decide
  | d + 4, h => by omega
theorem cnT_len {S : Sc} {own : Str} {wh : Bool} {d : Nat} {c : Cn} (h : CnG S own wh d c) (hd : d ≤ 3) : (cnT c).length ≤ 1400 := by
  obtain ⟨a, b⟩ := cnW_b h
  have e := wB_le hd
  have z := join_le (s := sp_) (k := 1) b (by decide +kernel)
  have : (cnW c).length * (25 + 1) ≤ 52 * 26 := Nat.mul_le_mul_right _ (by omega)
  exact Nat.le_trans z (by omega)
theorem lit_not : ("not " : Str) = tNot ++ sp_ := by decide +kernel
theorem lit_op : ("( " : Str) = tOp ++ sp_ := by decide +kernel
theorem lit_cl : (" )" : Str) = sp_ ++ tCl := by decide +kernel
theorem cnT_nt (c : Cn) : cnT (.nt c) = "not " ++ cnT c := by
  unfold cnT
  rw [show cnW (.nt c) = tNot :: cnW c by rw [cnW], join_cons (cnW_ne c), lit_not]
theorem cnT_an (w n : Str) (c : Cn) : cnT (.an w n c) = w ++ sp_ ++ n ++ sp_ ++ cnT c := by
  unfold cnT
  rw [show cnW (.an w n c) = w :: n :: cnW c by rw [cnW], join_two, join_cons (cnW_ne c), sapp, sapp, sapp, sapp, sapp]
theorem cnT_pc (w n : Str) (y : PyData) : cnT (.pc w n y) = n ++ sp_ ++ w ++ sp_ ++ strY y := by
  unfold cnT
  rw [show cnW (.pc w n y) = [n, w, strY y] by rw [cnW], join_two, join_two, join_one, sapp, sapp, sapp, sapp, sapp]
theorem join_parts (w : Str) : ∀ (r : List Cn) (c : Cn), Txt.join sp_ (cnW c ++ cnWs w r) = Txt.join (sp_ ++ w ++ sp_) ((c :: r).map cnT)
  | [], c => by
    rw [show cnWs w [] = [] by rw [cnWs], List.append_nil]
    exact (join_one _ _).symm
  | c2 :: r, c => by
    rw [show cnWs w (c2 :: r) = w :: (cnW c2 ++ cnWs w r) by rw [cnWs], join_app (cnW_ne c) (by simp), join_cons (by have := cnW_ne c2; simp [this]), join_parts w r c2, List.map_cons, List.map_cons, List.map_cons, join_two]
    show cnT c ++ sp_ ++ _ = _
    simp only [sapp]
theorem cnT_jn (w : Str) (c : Cn) (r : List Cn) : cnT (.jn w (c :: r)) = "( " ++ Txt.join (sp_ ++ w ++ sp_) ((c :: r).map cnT) ++ " )" := by
  unfold cnT
  have e : cnW (.jn w (c :: r)) = tOp :: ((cnW c ++ cnWs w r) ++ [tCl]) := by rw [cnW, cnWs]; rfl
  have ne : cnW c ++ cnWs w r ≠ [] := by have := cnW_ne c; simp [this]
  rw [e, join_cons (by simp), join_app ne (by simp), join_one, join_parts, lit_op, lit_cl, sapp, sapp, sapp, sapp, sapp]
  rfl
/-- a kind's text -/
def kdT : Kd → Str
  | .pick zs => "pick" ++ sp_ ++ Txt.join sp_ zs
  | .some zs => "some" ++ sp_ ++ Txt.join sp_ zs
  | .count a b => "count " ++ shI a ++ sp_ ++ shI b
theorem opts_len {zs : List Str} (h : Opts zs) : (Txt.join sp_ zs).length ≤ 60 := by
  have z := join_le (s := sp_) (k := 1) (fun z hz => name_len8 (h.nm z hz)) (by decide +kernel)
  have : zs.length * (8 + 1) ≤ 6 * 9 := Nat.mul_le_mul_right _ h.b
  omega
theorem kdT_len {k : Kd} (h : KdOk k) : (kdT k).length ≤ 100 := by
  have l1 : sp_.length = 1 := by decide +kernel
  cases k with
  | pick zs =>
    have := opts_len h
    have l4 : ("pick" : Str).length = 4 := by decide +kernel
    show (("pick" : Str) ++ sp_ ++ Txt.join sp_ zs).length ≤ 100
    rw [len_app, len_app]
    omega
  | some zs =>
    have := opts_len h
    have l4 : ("some" : Str).length = 4 := by decide +kernel
    show (("some" : Str) ++ sp_ ++ Txt.join sp_ zs).length ≤ 100
    rw [len_app, len_app]
    omega
  | count a b =>
    obtain ⟨h0, h1, h2⟩ := h
    have a1 := shI_len h0 (by omega)
    have a2 := shI_len (n := b) (by omega) h2
    have l6 : ("count " : Str).length = 6 := by decide +kernel
    show (("count " : Str) ++ shI a ++ sp_ ++ shI b).length ≤ 100
    rw [len_app, len_app, len_app]
    omega
mutual
/-- the rows of a step, of steps -/
def rowsS : Stp → List Str
  | .ask n k => [("ask " : Str) ++ n ++ sp_ ++ kdT k]
  | .con w c => [w ++ sp_ ++ cnT c]
  | .leave n c => [("leave " : Str) ++ n ++ sp_ ++ cnT c]
  | .iff c a b => [("if " : Str) ++ cnT c] ++ rowsL a ++ (if b.isEmpty = true then [] else [tElse] ++ rowsL b) ++ [tEnd]
  | .part n ss => [Txt.join sp_ [tPart, n]] ++ rowsL ss ++ [tEnd]
  | .each n q ss => [Txt.join sp_ [tEach, n, q]] ++ rowsL ss ++ [tEnd]
def rowsL : List Stp → List Str
  | [] => []
  | s :: r => rowsS s ++ rowsL r
end
mutual
theorem rowsS_b : ∀ (s : Stp) {S S' : Sc}, FitS S s S' → (rowsS s).length ≤ 3 * (S'.steps - S.steps) ∧ ∀ z ∈ rowsS s, z.length ≤ 1500
  | .ask n k, S, S', h => by
    obtain ⟨c, nw, hk, rfl⟩ := h
    refine ⟨?_, fun z hz => ?_⟩
    · show 1 ≤ 3 * (S.steps + 1 - S.steps)
      omega
    · rw [List.mem_singleton.mp (show z ∈ [("ask " : Str) ++ n ++ sp_ ++ kdT k] from hz), len_app, len_app, len_app]
      have a := kdT_len hk
      have b := name_len8 nw.1
      have c1 : ("ask " : Str).length = 4 := by decide +kernel
      have l1 : sp_.length = 1 := by decide +kernel
      omega
  | .con w c, S, S', h => by
    obtain ⟨c', hw, hc, rfl⟩ := h
    refine ⟨?_, fun z hz => ?_⟩
    · show 1 ≤ 3 * (S.steps + 1 - S.steps)
      omega
    · rw [List.mem_singleton.mp (show z ∈ [w ++ sp_ ++ cnT c] from hz), len_app, len_app]
      have a := cnT_len hc (Nat.le_refl _)
      have b : w.length ≤ 4 := by rcases hw with rfl | rfl <;> decide +kernel
      have l1 : sp_.length = 1 := by decide +kernel
      omega
  | .leave n c, S, S', h => by
    obtain ⟨c', hn, hm, hc, rfl⟩ := h
    refine ⟨?_, fun z hz => ?_⟩
    · show 1 ≤ 3 * (S.steps + 1 - S.steps)
      omega
    · rw [List.mem_singleton.mp (show z ∈ [("leave " : Str) ++ n ++ sp_ ++ cnT c] from hz), len_app, len_app, len_app]
      have a := cnT_len hc (Nat.le_refl _)
      have b := name_len8 hn
      have c1 : ("leave " : Str).length = 6 := by decide +kernel
      have l1 : sp_.length = 1 := by decide +kernel
      omega
  | .iff c a b, S, S', h => by
    obtain ⟨c', hc, S1, S2, h1, h2, rfl⟩ := h
    obtain ⟨o1, b1, w1, t1⟩ := fitL_ok a h1
    obtain ⟨o2, b2, w2, t2⟩ := fitL_ok b h2
    obtain ⟨l1, m1⟩ := rowsL_b a h1
    obtain ⟨l2, m2⟩ := rowsL_b b h2
    have t1 : S.steps + 1 ≤ S1.steps := t1
    have e3 : (S.tick.push tIf tNo).steps = S.steps + 1 := rfl
    rw [e3] at l1
    refine ⟨?_, fun z hz => ?_⟩
    · show ([("if " : Str) ++ cnT c] ++ rowsL a ++ (if b.isEmpty = true then [] else [tElse] ++ rowsL b) ++ [tEnd]).length ≤ 3 * (S2.steps - S.steps)
      rw [List.length_append, List.length_append, List.length_append]
      have : (if b.isEmpty = true then [] else [tElse] ++ rowsL b).length ≤ 1 + (rowsL b).length := by
        split
        · simp
        · simp; omega
      simp only [List.length_cons, List.length_nil]
      omega
    · rcases List.mem_append.mp (show z ∈ [("if " : Str) ++ cnT c] ++ rowsL a ++ (if b.isEmpty = true then [] else [tElse] ++ rowsL b) ++ [tEnd] from hz) with hz | hz
      · rcases List.mem_append.mp hz with hz | hz
        · rcases List.mem_append.mp hz with hz | hz
          · rw [List.mem_singleton.mp hz, len_app]
            have a := cnT_len hc (Nat.le_refl _)
            have c1 : ("if " : Str).length = 3 := by decide +kernel
            omega
          · exact m1 z hz
        · split at hz
          · cases hz
          · rcases List.mem_append.mp hz with hz | hz
            · rw [List.mem_singleton.mp hz]; decide +kernel
            · exact m2 z hz
      · rw [List.mem_singleton.mp hz]; decide +kernel
  | .part n ss, S, S', h => by
    obtain ⟨c', nw, S1, h1, rfl⟩ := h
    obtain ⟨o1, b1, w1, t1⟩ := fitL_ok ss h1
    obtain ⟨l1, m1⟩ := rowsL_b ss h1
    have t1 : S.steps + 1 ≤ S1.steps := t1
    have e3 : ((S.tick.name n).push tPart n).steps = S.steps + 1 := rfl
    rw [e3] at l1
    refine ⟨?_, fun z hz => ?_⟩
    · show ([Txt.join sp_ [tPart, n]] ++ rowsL ss ++ [tEnd]).length ≤ 3 * (S1.steps - S.steps)
      rw [List.length_append, List.length_append]
      simp only [List.length_cons, List.length_nil]
      omega
    · rcases List.mem_append.mp (show z ∈ [Txt.join sp_ [tPart, n]] ++ rowsL ss ++ [tEnd] from hz) with hz | hz
      · rcases List.mem_append.mp hz with hz | hz
        · rw [List.mem_singleton.mp hz]
          have z := join_le (s := sp_) (l := [tPart, n]) (n := 8) (k := 1) (by
            intro z hz
            simp only [List.mem_cons, List.not_mem_nil, or_false] at hz
            rcases hz with rfl | rfl
            · decide +kernel
            · exact name_len8 nw.1) (by decide +kernel)
          exact Nat.le_trans z (Nat.le_trans (Nat.mul_le_mul_right _ (show _ ≤ 3 by simp)) (by decide))
        · exact m1 z hz
      · rw [List.mem_singleton.mp hz]; decide +kernel
  | .each n q ss, S, S', h => by
    obtain ⟨c', nw, ho, hq, hl, S1, h1, rfl⟩ := h
    obtain ⟨o1, b1, w1, t1⟩ := fitL_ok ss h1
    obtain ⟨l1, m1⟩ := rowsL_b ss h1
    have t1 : S.steps + 1 ≤ S1.steps := t1
    have e3 : ((S.tick.name n).pushE n).steps = S.steps + 1 := rfl
    rw [e3] at l1
    refine ⟨?_, fun z hz => ?_⟩
    · show ([Txt.join sp_ [tEach, n, q]] ++ rowsL ss ++ [tEnd]).length ≤ 3 * (S1.steps - S.steps)
      rw [List.length_append, List.length_append]
      simp only [List.length_cons, List.length_nil]
      omega
    · rcases List.mem_append.mp (show z ∈ [Txt.join sp_ [tEach, n, q]] ++ rowsL ss ++ [tEnd] from hz) with hz | hz
      · rcases List.mem_append.mp hz with hz | hz
        · rw [List.mem_singleton.mp hz]
          have z := join_le (s := sp_) (l := [tEach, n, q]) (n := 8) (k := 1) (by
            intro z hz
            simp only [List.mem_cons, List.not_mem_nil, or_false] at hz
            rcases hz with rfl | rfl | rfl
            · decide +kernel
            · exact name_len8 nw.1
            · exact name_len8 hq) (by decide +kernel)
          exact Nat.le_trans z (Nat.le_trans (Nat.mul_le_mul_right _ (show _ ≤ 3 by simp)) (by decide))
        · exact m1 z hz
      · rw [List.mem_singleton.mp hz]; decide +kernel
theorem rowsL_b : ∀ (ss : List Stp) {S S' : Sc}, FitL S ss S' → (rowsL ss).length ≤ 3 * (S'.steps - S.steps) ∧ ∀ z ∈ rowsL ss, z.length ≤ 1500
  | [], S, S', h => ⟨Nat.zero_le _, fun z hz => by cases hz⟩
  | s :: r, S, S', h => by
    obtain ⟨S1, h1, h2⟩ := h
    obtain ⟨o1, b1, w1, t1⟩ := fitS_ok s h1
    obtain ⟨o2, b2, w2, t2⟩ := fitL_ok r h2
    obtain ⟨l1, m1⟩ := rowsS_b s h1
    obtain ⟨l2, m2⟩ := rowsL_b r h2
    refine ⟨?_, fun z hz => ?_⟩
    · show (rowsS s ++ rowsL r).length ≤ _
      rw [List.length_append]
      omega
    · rcases List.mem_append.mp (show z ∈ rowsS s ++ rowsL r from hz) with hz | hz
      · exact m1 z hz
      · exact m2 z hz
end
theorem rows_few {ss : List Stp} {S S' : Sc} (h : FitL S ss S') : (rowsL ss).length ≤ 180 ∧ ∀ z ∈ rowsL ss, z.length ≤ 1500 := by
  obtain ⟨a, b⟩ := rowsL_b ss h
  have := (fitL_ok ss h).1.ls
  exact ⟨by omega, b⟩
end Ms
set_option Elab.async false
set_option linter.all false
set_option maxRecDepth 100000
namespace Ms
open PySem PySem.Spec PyProof.Rows L2 Dl
/-- a kind written -/
def spWr : SpD := fun ws M Q _ => ∃ k, ws = [.d (kdD k)] ∧ KdOk k ∧ Q (.d (.str (kdT k))) M
theorem spWr_len : ∀ ws M Q E, spWr ws M Q E → ws.length = 1 := by rintro _ _ _ _ ⟨k, rfl, _⟩; rfl
theorem log_few {n : Int} (h0 : 0 ≤ n) (h1 : n ≤ 1000000) : n.natAbs.log2 < 1920 := by
  by_cases e : n.natAbs = 0
  · rw [e]; decide
  · have : n.natAbs.log2 < 20 := (Nat.log2_lt e).mpr (by rw [show (2 : Nat) ^ 20 = 1048576 by decide]; omega)
    omega
theorem smL {n : Nat} (h : n ≤ 16000000) : small n := small_of (by omega)
theorem opts_join {zs : List Str} (h : Opts zs) : (zs.map (·.length)).sum + zs.length * sp_.length ≤ 16777216 := by
  have a := sum_le (l := zs) (n := 8) fun z hz => name_len8 (h.nm z hz)
  have l1 : sp_.length = 1 := by decide +kernel
  have := h.b
  have : zs.length * 8 ≤ 6 * 8 := Nat.mul_le_mul_right _ h.b
  rw [l1]
  omega
def spWr0 : SpD := fun ws M Q _ => ∃ k, ws = [.d (kdD k)] ∧ KdOk k ∧ Q (.d .none) M
theorem spWr0_len : ∀ ws M Q E, spWr0 ws M Q E → ws.length = 1 := by rintro _ _ _ _ ⟨k, rfl, _⟩; rfl
theorem d_need_kind {g : Gc} (T : Txt g) : Df g 6 "need_kind" ["thing"] spWr0 := by
  refine df_of (k := 5) (i := i_need_kind) T.p_need_kind T.sy sc_need_kind ok_need_kind (fun _ _ _ _ _ _ us hl => match us, hl with | [_], _ => rfl) ?_ (fun Y ws M Q E F hE h => ?_)
  · exact spWr0_len
  · obtain ⟨k, rfl, hk, h⟩ := h
    refine ⟨_, (ss_one (s_if (t_not (t_val (q_call F 0 (d_is_kind T) (a_cons (q_var F 0) a_nil)))) (ss_one (s_raise1 F 1 T.e_NoKind)) ss_nil)), ?_⟩
    refine ⟨_, rfl, kd_t hk, ?_⟩
    refine bqc true (kd_x hk).k ?_
    refine iteF ?_
    exact h
theorem d_written {g : Gc} (T : Txt g) : Df g 1 "written" ["kind"] spWr := by
  refine df_of (k := 0) (i := i_written) T.p_written T.sy sc_written ok_written (fun _ _ _ _ _ _ us hl => match us, hl with | [_], _ => rfl) ?_ (fun Y ws M Q E F hE h => ?_)
  · exact spWr_len
  · obtain ⟨k, rfl, hk, h⟩ := h
    refine ⟨_, (ss_cons (s_if (t_cmp (o_eq F) (q_ix (q_var F 0) q_int) q_str) (ss_one (s_ret (q_bin o_add (q_bin o_add (q_bin o_add q_str (q_callT F 0 c_strX T.n_str (by decide +kernel) (a_cons (q_ix (q_var F 0) q_int) a_nil))) q_str) (q_callT F 0 c_strX T.n_str (by decide +kernel) (a_cons (q_ix (q_var F 0) q_int) a_nil))))) ss_nil) (ss_one (s_ret (q_bin o_add (q_bin o_add (q_ix (q_var F 0) q_int) q_str) (q_met m_join q_str (a_cons (q_ix (q_var F 0) q_int) a_nil)))))), ?_⟩
    have l1 : sp_.length = 1 := by decide +kernel
    cases k with
    | pick zs =>
      refine ⟨_, at0, rfl, bqc false (by decide +kernel) (iteF ?_)⟩
      have := opts_len hk
      have l4 : ("pick" : Str).length = 4 := by decide +kernel
      refine ⟨_, at0, smL (show ("pick" : Str).length + sp_.length ≤ 16000000 by omega), ?_⟩
      refine ⟨⟨_, rfl⟩, _, at1, _, rfl, opts_join hk, ?_⟩
      exact ⟨smL (show (("pick" : Str) ++ sp_).length + (Txt.join sp_ zs).length ≤ 16000000 by rw [len_app]; omega), h⟩
    | some zs =>
      refine ⟨_, at0, rfl, bqc false (by decide +kernel) (iteF ?_)⟩
      have := opts_len hk
      have l4 : ("some" : Str).length = 4 := by decide +kernel
      refine ⟨_, at0, smL (show ("some" : Str).length + sp_.length ≤ 16000000 by omega), ?_⟩
      refine ⟨⟨_, rfl⟩, _, at1, _, rfl, opts_join hk, ?_⟩
      exact ⟨smL (show (("some" : Str) ++ sp_).length + (Txt.join sp_ zs).length ≤ 16000000 by rw [len_app]; omega), h⟩
    | count a b =>
      obtain ⟨h0, h1, h2⟩ := hk
      have a1 := shI_len h0 (by omega)
      have a2 := shI_len (n := b) (by omega) h2
      have l6 : ("count " : Str).length = 6 := by decide +kernel
      refine ⟨_, at0, rfl, bqc true (by decide +kernel) (iteT ?_)⟩
      refine ⟨_, at1, log_few h0 (by omega), smL (show ("count " : Str).length + (shI a).length ≤ 16000000 by omega), ?_⟩
      refine ⟨smL (show (("count " : Str) ++ shI a).length + sp_.length ≤ 16000000 by rw [len_app]; omega), ?_⟩
      refine ⟨_, at2, log_few (by omega) h2, smL (show (("count " : Str) ++ shI a ++ sp_).length + (shI b).length ≤ 16000000 by rw [len_app, len_app]; omega), ?_⟩
      exact h
theorem d_kind_text {g : Gc} (T : Txt g) : Df g 7 "kind_text" ["kind"] spWr := by
  refine df_of (k := 6) (i := i_kind_text) T.p_kind_text T.sy sc_kind_text ok_kind_text (fun _ _ _ _ _ _ us hl => match us, hl with | [_], _ => rfl) ?_ (fun Y ws M Q E F hE h => ?_)
  · exact spWr_len
  · obtain ⟨k, rfl, hk, h⟩ := h
    refine ⟨_, (ss_cons (s_expr (q_call F 0 (d_need_kind T) (a_cons (q_var F 0) a_nil))) (ss_one (s_ret (q_call F 1 (d_written T) (a_cons (q_var F 0) a_nil))))), ?_⟩
    refine ⟨k, rfl, hk, ?_⟩
    exact ⟨k, rfl, hk, h⟩
/-- the words of a condition -/
def spWd : Nat → SpD
  | 0 => spNo
  | n + 1 => fun ws M Q _ => ∃ (S : Sc) (own : Str) (wh : Bool) (c : Cn), ws = [.d (cnD c)] ∧ CnG S own wh (n + 1) c ∧ n + 1 ≤ 3 ∧ ∀ M', Keep M M' → Q (.d (.list ((cnW c).map PyData.str))) M'
theorem spWd_len {n : Nat} : ∀ ws M Q E, spWd n ws M Q E → ws.length = 1 := by
  cases n with
  | zero => intro _ _ _ _ h; exact h.elim
  | succ n => rintro _ _ _ _ ⟨S, own, wh, c, rfl, _⟩; rfl
theorem w_few {S : Sc} {own : Str} {wh : Bool} {d : Nat} {c : Cn} (h : CnG S own wh d c) (hd : d ≤ 3) : (cnW c).length ≤ 52 := Nat.le_trans (cnW_b h).1 (wB_le hd)
theorem cnWs_app (w : Str) : ∀ a b : List Cn, cnWs w (a ++ b) = cnWs w a ++ cnWs w b
  | [], b => by rw [show cnWs w [] = [] by rw [cnWs]]; rfl
  | c :: a, b => by rw [List.cons_append, cnWs, cnWs_app w a b, show cnWs w (c :: a) = w :: (cnW c ++ cnWs w a) by rw [cnWs]]; simp
theorem cnW_jn (w : Str) (c : Cn) (r : List Cn) : cnW (.jn w (c :: r)) = tOp :: ((cnW c ++ cnWs w r) ++ [tCl]) := by rw [cnW, cnWs]; rfl
theorem keep_set {M M' : MH} {p : Addr} {o : O} (k : Keep M M') (n : M p = none) : Keep M (mset M' p o) := fun b u e => by
  rw [mset_ne (by rintro rfl; rw [n] at e; cases e)]
  exact k b u e
theorem d_worded {g : Gc} (T : Txt g) : ∀ n : Nat, Df g (1 + n) "worded" ["condition"] (spWd n)
  | 0 => df_of (k := 0) (i := i_worded) T.p_worded T.sy sc_worded ok_worded (fun _ _ _ _ _ _ us hl => match us, hl with | [_], _ => rfl) (fun _ _ _ _ (h : False) => h.elim) (fun _ _ _ _ _ _ _ (h : False) => h.elim)
  | n + 1 => by
    refine df_of (k := 1 + n) (i := i_worded) T.p_worded T.sy sc_worded ok_worded (fun _ _ _ _ _ _ us hl => match us, hl with | [_], _ => rfl) ?_ (fun Y ws M Q E F hE h => ?_)
    · exact spWd_len
    · obtain ⟨S, own, wh, c, rfl, hc, hn, h⟩ := h
      refine ⟨_, (ss_cons (s_if (t_cmp (o_eq F) (q_ix (q_var F 0) q_int) q_str) (ss_one (s_ret (q_bin o_add (q_lst (a_cons q_str a_nil)) (q_call F 1 (d_worded T n) (a_cons (q_ix (q_var F 0) q_int) a_nil))))) ss_nil) (ss_cons (s_if (t_cmp (o_in F) (q_ix (q_var F 0) q_int) (q_tup (a_cons q_str (a_cons q_str a_nil)))) (ss_one (s_ret (q_bin o_add (q_lst (a_cons (q_ix (q_var F 0) q_int) (a_cons (q_ix (q_var F 0) q_int) a_nil))) (q_call F 1 (d_worded T n) (a_cons (q_ix (q_var F 0) q_int) a_nil))))) ss_nil) (ss_cons (s_if (t_cmp (o_inK F T.c_PIECES_conditions.choose_spec) (q_ix (q_var F 0) q_int) (q_ref F 0 T.c_PIECES_conditions.choose_spec)) (ss_one (s_ret (q_lst (a_cons (q_ix (q_var F 0) q_int) (a_cons (q_ix (q_var F 0) q_int) (a_cons (q_callT F 2 c_strX T.n_str (by decide +kernel) (a_cons (q_ix (q_var F 0) q_int) a_nil)) a_nil)))))) ss_nil) (ss_cons (s_set (q_bin o_addM (q_lst (a_cons q_str a_nil)) (q_call F 1 (d_worded T n) (a_cons (q_ix (q_ix (q_var F 0) q_int) q_int) a_nil))) (g_name F 1)) (ss_cons (s_for F (i_tup (q_sl (q_ix (q_var F 0) q_int) (o_sm q_int) o_no)) (g_name F 2) (ss_one (s_expr (q_met m_extend (q_var F 1) (a_cons (q_bin o_add (q_lst (a_cons (q_ix (q_var F 0) q_int) a_nil)) (q_call F 1 (d_worded T n) (a_cons (q_var F 2) a_nil))) a_nil))))) (ss_one (s_ret (q_bin o_addL (q_var F 1) (q_lst (a_cons q_str a_nil)))))))))), ?_⟩
      have lw := w_few hc hn
      cases hc with
      | @pc _ _ _ w nm y k r e1 e2 e3 e4 e5 =>
        have wk : PyData.eqv (.str w) (.str "not") = false ∧ inOk (.str w) anyD = true ∧ inD (.str w) anyD = false ∧ (["is", "has", "from", "to"] : List Str).contains w = true := by
          cases k with
          | pick zs => obtain ⟨rfl, _⟩ := e3; decide +kernel
          | some zs => obtain ⟨rfl, _⟩ := e3; decide +kernel
          | count a b => obtain ⟨rfl | rfl, _⟩ := e3 <;> decide +kernel
        obtain ⟨w1, w2, w3, w4⟩ := wk
        refine ⟨_, at0, rfl, bqc false w1 (iteF ?_)⟩
        refine ⟨_, at0, sm2, w2, bqc false w3 (iteF ?_)⟩
        refine ⟨_, at0, rfl, bqc true w4 (iteT ?_)⟩
        refine ⟨_, at1, _, at0, _, at2, ?_⟩
        cases k with
        | pick zs =>
          obtain ⟨rfl, z, hz, rfl⟩ := e3
          exact ⟨sm3, h M (Keep.refl M)⟩
        | some zs =>
          obtain ⟨rfl, z, hz, rfl⟩ := e3
          exact ⟨sm3, h M (Keep.refl M)⟩
        | count a b =>
          obtain ⟨hw, m, rfl, m0, m1⟩ := e3
          exact ⟨log_few m0 m1, sm3, h M (Keep.refl M)⟩
      | @nt _ _ _ c hc =>
        obtain ⟨m, rfl⟩ := cng_pos hc
        refine ⟨_, at0, rfl, bqc true (by decide +kernel) (iteT ?_)⟩
        refine ⟨sm1, _, at1, S, own, wh, c, rfl, hc, by omega, fun M1 k1 => ?_⟩
        refine ⟨smL ?_, h M1 k1⟩
        have : (cnW c).length + 1 ≤ 52 := lw
        simp
        omega
      | @an _ _ w nm c hw he hn2 hc =>
        obtain ⟨m, rfl⟩ := cng_pos hc
        refine ⟨_, at0, rfl, bqc false (by rcases hw with rfl | rfl <;> decide +kernel) (iteF ?_)⟩
        refine ⟨_, at0, sm2, by rcases hw with rfl | rfl <;> decide +kernel, bqc true (by rcases hw with rfl | rfl <;> decide +kernel) (iteT ?_)⟩
        refine ⟨_, at0, _, at1, sm2, _, at2, S, nm, false, c, rfl, hc, by omega, fun M1 k1 => ?_⟩
        refine ⟨smL ?_, h M1 k1⟩
        have : (cnW c).length + 1 + 1 ≤ 52 := lw
        simp
        omega
      | @jn _ _ _ w cs hw h2 h3 hc =>
        refine ⟨_, at0, rfl, bqc false (by rcases hw with rfl | rfl <;> decide +kernel) (iteF ?_)⟩
        refine ⟨_, at0, sm2, by rcases hw with rfl | rfl <;> decide +kernel, bqc false (by rcases hw with rfl | rfl <;> decide +kernel) (iteF ?_)⟩
        refine ⟨_, at0, rfl, bqc false (by rcases hw with rfl | rfl <;> decide +kernel) (iteF ?_)⟩
        match cs, h2, h3, hc, h, lw with
        | c :: r, h2, h3, hc, h, lw =>
          have hcc := hc c List.mem_cons_self
          obtain ⟨m, rfl⟩ := cng_pos hcc
          rw [cnW_jn] at h lw
          have lw2 : (cnW c).length + (cnWs w r).length ≤ 50 := by
            simp only [List.length_cons, List.length_append, List.length_nil] at lw
            omega
          refine ⟨sm1, _, at1, _, at0, S, own, wh, c, rfl, hcc, by omega, fun M1 k1 => ?_⟩
          refine ⟨smL ?_, fun p np => ?_⟩
          · simp
            omega
          have np0 : M p = none := by
            cases e : M p with
            | none => rfl
            | some o => have := k1 p o e; rw [np] at this; cases this
          have ec : cut (cnDs (c :: r)) (some 1) none = r.map cnD := by
            rw [show cut (cnDs (c :: r)) (some 1) none = (cnDs (c :: r)).drop 1 from cut_from _ 1, cnDs_map]
            rfl
          refine ⟨_, at1, ?_⟩
          dsimp only [tSmO, tK, tNoO, rSlD]
          rw [ec]
          refine ⟨fun j σ M' => ∃ x, σ = [some (.d (cnD (.jn w (c :: r)))), some (.ref p), x] ∧ Keep M M' ∧ M' p = some (.lst (((tOp :: (cnW c ++ cnWs w (r.take j))).map PyData.str).map W.d)), ⟨_, rfl, keep_set k1 np0, ?_⟩, fun _ _ _ _ => trivial, ?_, ?_⟩
          · rw [mset_same, List.take_zero, show cnWs w [] = [] by rw [cnWs], List.append_nil]
            rfl
          · rintro j v σ M2 hj ⟨x, rfl, k2, hp2⟩
            obtain ⟨d, rfl, hd⟩ := getElem?_mapd hj
            rw [List.getElem?_map] at hd
            cases e : r[j]? with
            | none => rw [e] at hd; cases hd
            | some c2 =>
              rw [e] at hd
              cases hd
              have hlt : j < r.length := (List.getElem?_eq_some_iff.mp e).1
              have et : r.take (j + 1) = r.take j ++ [c2] := by
                rw [List.take_succ, e]
                rfl
              have hc2 := hc c2 (List.mem_cons_of_mem _ (List.mem_of_getElem? e))
              have lt : (cnWs w (r.take (j + 1))).length ≤ (cnWs w r).length := by
                have : cnWs w r = cnWs w (r.take (j + 1)) ++ cnWs w (r.drop (j + 1)) := by rw [← cnWs_app, List.take_append_drop]
                rw [this, List.length_append]
                omega
              have e1 : cnWs w (r.take (j + 1)) = cnWs w (r.take j) ++ (w :: cnW c2) := by
                rw [et, cnWs_app, show cnWs w [c2] = w :: (cnW c2 ++ []) from rfl, List.append_nil]
              rw [e1, List.length_append, List.length_cons] at lt
              refine ⟨⟨_, hp2⟩, _, at0, sm1, S, own, wh, c2, rfl, hc2, by omega, fun M3 k3 => ?_⟩
              have hp3 := k3 _ _ hp2
              refine ⟨smL (by simp; omega), _, hp3, smL (by simp; omega), ?_⟩
              refine ⟨_, rfl, keep_set (k2.trans k3) np0, ?_⟩
              rw [mset_same, e1]
              simp
          · rintro σ M2 ⟨x, rfl, k2, hp2⟩
            rw [show r.take ((r.map cnD).map W.d).length = r by rw [List.length_map, List.length_map, List.take_length]] at hp2
            refine ⟨sm1, _, hp2, dataQ_of ?_⟩
            refine ⟨smL (by simp; omega), ?_⟩
            have := h M2 k2
            rw [show ((tOp :: (cnW c ++ cnWs w r ++ [tCl])).map PyData.str) = (tOp :: (cnW c ++ cnWs w r)).map PyData.str ++ [.str tCl] by simp] at this
            exact this
/-- a condition's text -/
def spCt : SpD := fun ws M Q _ => ∃ (S : Sc) (own : Str) (wh : Bool) (c : Cn), ws = [.d (cnD c)] ∧ CnG S own wh 3 c ∧ ∀ M', Keep M M' → Q (.d (.str (cnT c))) M'
theorem spCt_len : ∀ ws M Q E, spCt ws M Q E → ws.length = 1 := by rintro _ _ _ _ ⟨S, own, wh, c, rfl, _⟩; rfl
def spCt0 : SpD := fun ws M Q _ => ∃ c, ws = [.d (cnD c)] ∧ CdX (cnD c) ∧ Q (.d .none) M
theorem spCt0_len : ∀ ws M Q E, spCt0 ws M Q E → ws.length = 1 := by rintro _ _ _ _ ⟨k, rfl, _⟩; rfl
theorem d_need_condition {g : Gc} (T : Txt g) : Df g 19 "need_condition" ["thing"] spCt0 := by
  refine df_of (k := 18) (i := i_need_condition) T.p_need_condition T.sy sc_need_condition ok_need_condition (fun _ _ _ _ _ _ us hl => match us, hl with | [_], _ => rfl) ?_ (fun Y ws M Q E F hE h => ?_)
  · exact spCt0_len
  · obtain ⟨c, rfl, hc, h⟩ := h
    refine ⟨_, (ss_one (s_if (t_not (t_val (q_call F 0 (d_is_condition T) (a_cons (q_var F 0) a_nil)))) (ss_one (s_raise1 F 1 T.e_NoCondition)) ss_nil)), ?_⟩
    refine ⟨_, rfl, cd_t hc, ?_⟩
    refine bqc true hc.c ?_
    refine iteF ?_
    exact h
theorem d_condition_text {g : Gc} (T : Txt g) : Df g 20 "condition_text" ["condition"] spCt := by
  refine df_of (k := 19) (i := i_condition_text) T.p_condition_text T.sy sc_condition_text ok_condition_text (fun _ _ _ _ _ _ us hl => match us, hl with | [_], _ => rfl) ?_ (fun Y ws M Q E F hE h => ?_)
  · exact spCt_len
  · obtain ⟨S, own, wh, c, rfl, hc, h⟩ := h
    refine ⟨_, (ss_cons (s_expr (q_call F 0 (d_need_condition T) (a_cons (q_var F 0) a_nil))) (ss_one (s_ret (q_met m_join q_str (a_cons (q_call F 1 (d_worded T 3) (a_cons (q_var F 0) a_nil)) a_nil))))), ?_⟩
    refine ⟨c, rfl, cng_cd hc, ?_⟩
    refine ⟨⟨_, rfl⟩, S, own, wh, c, rfl, hc, Nat.le_refl _, fun M1 k1 => ?_⟩
    have lw := w_few hc (Nat.le_refl _)
    refine ⟨_, rfl, ?_, h M1 k1⟩
    have a := sum_le (cnW_b hc).2
    have l1 : sp_.length = 1 := by decide +kernel
    show _ + _ * sp_.length ≤ 16777216
    rw [l1]
    omega
end Ms
set_option Elab.async false
set_option linter.all false
set_option maxRecDepth 100000
namespace Ms
open PySem PySem.Spec PyProof.Rows L2 Dl
def rwD (l : List Str) : List PyData := l.map PyData.str
/-- the rows of a block, of a step, of steps -/
def spBk (n : Nat) : SpD := fun ws M Q _ => ∃ s S S', ws = [.d (stD s)] ∧ FitS S s S' ∧ inS s ≠ [] ∧ 5 ≤ S.begun.length + n ∧ ∀ M', Keep M M' → Q (.d (.list (rwD (rowsS s)))) M'
def spSr (n : Nat) : SpD := fun ws M Q _ => ∃ s S S', ws = [.d (stD s)] ∧ FitS S s S' ∧ 5 ≤ S.begun.length + n ∧ ∀ M', Keep M M' → Q (.d (.list (rwD (rowsS s)))) M'
def spRo (n : Nat) : SpD := fun ws M Q _ => ∃ ss S S', ws = [.d (.tuple (stDs ss))] ∧ FitL S ss S' ∧ 5 ≤ S.begun.length + n ∧ ∀ p M', Keep M M' → M' p = some (.lst ((rwD (rowsL ss)).map W.d)) → Q (.ref p) M'
def spRo' : Nat → SpD | 0 => spNo | n + 1 => spRo n
theorem spBk_len {n} : ∀ ws M Q E, spBk n ws M Q E → ws.length = 1 := by rintro _ _ _ _ ⟨s, S, S', rfl, _⟩; rfl
theorem spSr_len {n} : ∀ ws M Q E, spSr n ws M Q E → ws.length = 1 := by rintro _ _ _ _ ⟨s, S, S', rfl, _⟩; rfl
theorem spRo_len {n} : ∀ ws M Q E, spRo n ws M Q E → ws.length = 1 := by rintro _ _ _ _ ⟨s, S, S', rfl, _⟩; rfl
theorem fitS_can {S S' : Sc} : ∀ {s : Stp}, FitS S s S' → Can S
  | .ask _ _, h => h.1
  | .con _ _, h => h.1
  | .leave _ _, h => h.1
  | .iff _ _ _, h => h.1
  | .part _ _, h => h.1
  | .each _ _ _, h => h.1
theorem rows_fewS {s : Stp} {S S' : Sc} (h : FitS S s S') : (rowsS s).length ≤ 180 ∧ ∀ z ∈ rowsS s, z.length ≤ 1500 := by
  obtain ⟨a, b⟩ := rowsS_b s h
  have := (fitS_ok s h).1.ls
  exact ⟨by omega, b⟩
theorem rwD_len (l : List Str) : (rwD l).length = l.length := by unfold rwD; rw [List.length_map]
theorem rwD_app (a b : List Str) : rwD (a ++ b) = rwD a ++ rwD b := by unfold rwD; rw [List.map_append]
theorem bk_of {g : Gc} (T : Txt g) (n m : Nat) (lm : m ≤ 40 + 3 * n) (DR : Df g m "rows_of" ["steps"] (spRo' n)) : Df g (40 + 3 * n + 1) "block_rows" ["step"] (spBk n) := by
  refine df_of (k := 40 + 3 * n) (i := i_block_rows) T.p_block_rows T.sy sc_block_rows ok_block_rows (fun _ _ _ _ _ _ us hl => match us, hl with | [_], _ => rfl) spBk_len (fun Y ws M Q E F hE h => ?_)
  obtain ⟨s, S, S', rfl, hf, hi, h5, h⟩ := h
  refine ⟨_, (ss_cons (s_if (t_cmp (o_eq F) (q_ix (q_var F 0) q_int) q_str) (ss_cons (s_set (q_bin o_addL (q_lst (a_cons (q_bin o_add q_str (q_call F 1 (d_condition_text T) (a_cons (q_ix (q_var F 0) q_int) a_nil))) a_nil)) (q_call F 0 DR (a_cons (q_ix (q_var F 0) q_int) a_nil))) (g_name F 1)) (ss_one (s_if (t_cmp (o_ne F) (q_ix (q_var F 0) q_int) (q_tup a_nil)) (ss_one (s_set (q_bin o_addL (q_bin o_addL (q_var F 1) (q_lst (a_cons q_str a_nil))) (q_call F 0 DR (a_cons (q_ix (q_var F 0) q_int) a_nil))) (g_name F 1))) ss_nil))) (ss_one (s_set (q_bin o_addL (q_lst (a_cons (q_met m_join q_str (a_cons (q_sl (q_var F 0) o_no (o_sm (q_neg q_int))) a_nil)) a_nil)) (q_call F 0 DR (a_cons (q_ix (q_var F 0) (q_neg q_int)) a_nil))) (g_name F 1)))) (ss_one (s_ret (q_bin o_addL (q_var F 1) (q_lst (a_cons q_str a_nil)))))), ?_⟩
  have can := fitS_can hf
  have fw := (rows_fewS hf).1
  obtain ⟨n, rfl⟩ : ∃ n', n = n' + 1 := ⟨n - 1, by have := can.2.2; omega⟩
  cases s with
  | ask nm k => exact absurd rfl hi
  | con w c => exact absurd rfl hi
  | leave nm c => exact absurd rfl hi
  | iff c a b =>
    have lay := inD_lay (fitS_lay _ hf).l
    obtain ⟨_, hc, S1, S2, h1, h2, rfl⟩ := hf
    refine ⟨_, at0, rfl, bqc true (by decide +kernel) (iteT ?_)⟩
    have can2 := can.2.2
    have e1 : (S.tick.push tIf tNo).begun.length = S.begun.length + 1 := by simp [Sc.push, Sc.tick]
    have hl : rowsS (.iff c a b) = [("if " : Str) ++ cnT c] ++ rowsL a ++ (if b.isEmpty = true then [] else [tElse] ++ rowsL b) ++ [tEnd] := by rw [rowsS]
    have fa := (rows_few h1).1
    have fb := (rows_few h2).1
    have tl := cnT_len hc (Nat.le_refl _)
    have l3 : ("if " : Str).length = 3 := by decide +kernel
    refine ⟨_, at1, S.tick, _, _, c, rfl, hc, fun M1 k1 => ?_⟩
    refine ⟨smL (show ("if " : Str).length + (cnT c).length ≤ 16000000 by omega), sm1, _, at2, a, S.tick.push tIf tNo, S1, rfl, h1, by rw [e1]; omega, fun p M2 k2 hp2 => ?_⟩
    refine ⟨_, hp2, dataQ_of ⟨smL (by simp [rwD_len]; omega), ?_⟩⟩
    have ne : neOk (.tuple (stDs b)) (.tuple []) = true := by
      have : (PyData.tuple (stDs b)).canLay0 = true := by
        simp only [inD_, PyData.canLay0, PyData.canLayAll0, Bool.and_eq_true] at lay ⊢
        exact lay.2.1
      unfold neOk
      rw [this]
      simp [bothS, PyData.canLay0, PyData.canLayAll0, PyData.depth, PyData.depthAll]
    have ev : PyData.eqv (.tuple (stDs b)) (.tuple []) = b.isEmpty := by
      rw [eqv_tup_nil, stDs_map]
      cases b <;> rfl
    refine ⟨_, rfl, sm0, ne, ?_⟩
    cases hb : b.isEmpty with
    | true =>
      refine bqc false (by rw [ev, hb]; rfl) (iteF ?_)
      refine ⟨sm1, smL (by simp [rwD_len]; omega), ?_⟩
      have := h M2 (k1.trans k2)
      rw [hl, hb, if_pos rfl, List.append_nil, rwD_app, rwD_app] at this
      exact this
    | false =>
      refine bqc true (by rw [ev, hb]; rfl) (iteT ?_)
      refine ⟨sm1, smL (by simp [rwD_len]; omega), _, rfl, b, S1, S2, rfl, h2, by rw [(fitL_ok a h1).2.1, e1]; omega, fun q M3 k3 hq3 => ?_⟩
      refine ⟨_, hq3, dataQ_of ⟨smL (by simp [rwD_len]; omega), ?_⟩⟩
      refine ⟨sm1, smL (by simp [rwD_len]; omega), ?_⟩
      have := h M3 ((k1.trans k2).trans k3)
      rw [hl, hb, if_neg Bool.false_ne_true, rwD_app, rwD_app, rwD_app, rwD_app, ← List.append_assoc] at this
      exact this
  | part nm ss =>
    obtain ⟨_, hn, S1, h1, rfl⟩ := hf
    refine ⟨_, at0, rfl, bqc false (by decide +kernel) (iteF ?_)⟩
    have can2 := can.2.2
    have e1 : ((S.tick.name nm).push tPart nm).begun.length = S.begun.length + 1 := by simp [Sc.push, Sc.name, Sc.tick]
    have hl : rowsS (.part nm ss) = [Txt.join sp_ [tPart, nm]] ++ rowsL ss ++ [tEnd] := by rw [rowsS]
    have fa := (rows_few h1).1
    have l8 := name_len8 hn.1
    have lp : tPart.length = 4 := by decide +kernel
    have l1 : sp_.length = 1 := by decide +kernel
    refine ⟨⟨_, rfl⟩, [tPart, nm], rfl, by show ([tPart, nm].map (·.length)).sum + [tPart, nm].length * sp_.length ≤ 16777216; simp; omega, ?_⟩
    refine ⟨sm1, _, rfl, ss, (S.tick.name nm).push tPart nm, S1, rfl, h1, by rw [e1]; omega, fun p M2 k2 hp2 => ?_⟩
    refine ⟨_, hp2, dataQ_of ⟨smL (by simp [rwD_len]; omega), ?_⟩⟩
    refine ⟨sm1, smL (by simp [rwD_len]; omega), ?_⟩
    have := h M2 k2
    rw [hl, rwD_app, rwD_app] at this
    exact this
  | each nm q ss =>
    obtain ⟨_, hn, ho, hq, hl0, S1, h1, rfl⟩ := hf
    refine ⟨_, at0, rfl, bqc false (by decide +kernel) (iteF ?_)⟩
    have can2 := can.2.2
    have e1 : ((S.tick.name nm).pushE nm).begun.length = S.begun.length + 1 := by simp [Sc.pushE, Sc.name, Sc.tick]
    have hl : rowsS (.each nm q ss) = [Txt.join sp_ [tEach, nm, q]] ++ rowsL ss ++ [tEnd] := by rw [rowsS]
    have fa := (rows_few h1).1
    have l8 := name_len8 hn.1
    have l9 := name_len8 hq
    have lp : tEach.length = 4 := by decide +kernel
    have l1 : sp_.length = 1 := by decide +kernel
    refine ⟨⟨_, rfl⟩, [tEach, nm, q], rfl, by show ([tEach, nm, q].map (·.length)).sum + [tEach, nm, q].length * sp_.length ≤ 16777216; simp; omega, ?_⟩
    refine ⟨sm1, _, rfl, ss, (S.tick.name nm).pushE nm, S1, rfl, h1, by rw [e1]; omega, fun p M2 k2 hp2 => ?_⟩
    refine ⟨_, hp2, dataQ_of ⟨smL (by simp [rwD_len]; omega), ?_⟩⟩
    refine ⟨sm1, smL (by simp [rwD_len]; omega), ?_⟩
    have := h M2 k2
    rw [hl, rwD_app, rwD_app] at this
    exact this
theorem sr_of {g : Gc} (T : Txt g) (n : Nat) (DB : Df g (40 + 3 * n + 1) "block_rows" ["step"] (spBk n)) : Df g (41 + 3 * n + 1) "step_rows" ["step"] (spSr n) := by
  refine df_of (k := 41 + 3 * n) (i := i_step_rows) T.p_step_rows T.sy sc_step_rows ok_step_rows (fun _ _ _ _ _ _ us hl => match us, hl with | [_], _ => rfl) spSr_len (fun Y ws M Q E F hE h => ?_)
  obtain ⟨s, S, S', rfl, hf, h5, h⟩ := h
  refine ⟨_, (ss_cons (s_if (t_cmp (o_eq F) (q_ix (q_var F 0) q_int) q_str) (ss_one (s_ret (q_lst (a_cons (q_bin o_add (q_bin o_add (q_bin o_add q_str (q_ix (q_var F 0) q_int)) q_str) (q_call F 2 (d_kind_text T) (a_cons (q_ix (q_var F 0) q_int) a_nil))) a_nil)))) ss_nil) (ss_cons (s_if (t_cmp (o_in F) (q_ix (q_var F 0) q_int) (q_tup (a_cons q_str (a_cons q_str (a_cons q_str a_nil))))) (ss_one (s_ret (q_call F 0 DB (a_cons (q_var F 0) a_nil)))) ss_nil) (ss_one (s_ret (q_lst (a_cons (q_bin o_add (q_bin o_add (q_met m_join q_str (a_cons (q_sl (q_var F 0) o_no (o_sm (q_neg q_int))) a_nil)) q_str) (q_call F 1 (d_condition_text T) (a_cons (q_ix (q_var F 0) (q_neg q_int)) a_nil))) a_nil)))))), ?_⟩
  have l1 : sp_.length = 1 := by decide +kernel
  cases s with
  | ask nm k =>
    obtain ⟨_, hn, hk, rfl⟩ := hf
    have l8 := name_len8 hn.1
    have lk := kdT_len hk
    have l4 : ("ask " : Str).length = 4 := by decide +kernel
    refine ⟨_, at0, rfl, bqc true (by decide +kernel) (iteT ?_)⟩
    refine ⟨_, at1, smL (show ("ask " : Str).length + nm.length ≤ 16000000 by omega), smL (show (("ask " : Str) ++ nm).length + sp_.length ≤ 16000000 by rw [len_app]; omega), ?_⟩
    refine ⟨_, at2, k, rfl, hk, smL (show (("ask " : Str) ++ nm ++ sp_).length + (kdT k).length ≤ 16000000 by rw [len_app, len_app]; omega), sm1, ?_⟩
    exact h M (Keep.refl M)
  | con w c =>
    obtain ⟨_, hw, hc, rfl⟩ := hf
    have tl := cnT_len hc (Nat.le_refl _)
    have lw : w.length ≤ 4 := by rcases hw with rfl | rfl <;> decide +kernel
    refine ⟨_, at0, rfl, bqc false (by rcases hw with rfl | rfl <;> decide +kernel) (iteF ?_)⟩
    refine ⟨_, at0, sm3, by rcases hw with rfl | rfl <;> decide +kernel, bqc false (by rcases hw with rfl | rfl <;> decide +kernel) (iteF ?_)⟩
    refine ⟨⟨_, rfl⟩, [w], rfl, by show ([w].map (·.length)).sum + [w].length * sp_.length ≤ 16777216; simp; omega, ?_⟩
    rw [show Txt.join (Str.ofString " ") [w] = w from join_one _ _]
    refine ⟨smL (show w.length + sp_.length ≤ 16000000 by omega), ?_⟩
    refine ⟨_, rfl, S.tick, _, _, c, rfl, hc, fun M1 k1 => ?_⟩
    exact ⟨smL (show (w ++ sp_).length + (cnT c).length ≤ 16000000 by rw [len_app]; omega), sm1, h M1 k1⟩
  | leave nm c =>
    obtain ⟨_, hn, hm, hc, rfl⟩ := hf
    have tl := cnT_len hc (Nat.le_refl _)
    have l8 := name_len8 hn
    have l5 : ("leave" : Str).length = 5 := by decide +kernel
    refine ⟨_, at0, rfl, bqc false (by decide +kernel) (iteF ?_)⟩
    refine ⟨_, at0, sm3, by decide +kernel, bqc false (by decide +kernel) (iteF ?_)⟩
    refine ⟨⟨_, rfl⟩, [("leave" : Str), nm], rfl, by show ([("leave" : Str), nm].map (·.length)).sum + [("leave" : Str), nm].length * sp_.length ≤ 16777216; simp; omega, ?_⟩
    rw [show Txt.join (Str.ofString " ") [("leave" : Str), nm] = "leave " ++ nm by rw [join_two, join_one]; rw [show ("leave " : Str) = "leave" ++ sp_ by decide +kernel]]
    have l6 : ("leave " : Str).length = 6 := by decide +kernel
    refine ⟨smL (show (("leave " : Str) ++ nm).length + sp_.length ≤ 16000000 by rw [len_app]; omega), ?_⟩
    refine ⟨_, rfl, S.tick, _, _, c, rfl, hc, fun M1 k1 => ?_⟩
    exact ⟨smL (show (("leave " : Str) ++ nm ++ sp_).length + (cnT c).length ≤ 16000000 by rw [len_app, len_app]; omega), sm1, h M1 k1⟩
  | iff c a b =>
    refine ⟨_, at0, rfl, bqc false (by decide +kernel) (iteF ?_)⟩
    refine ⟨_, at0, sm3, by decide +kernel, bqc true (by decide +kernel) (iteT ?_)⟩
    exact ⟨_, S, S', rfl, hf, by simp [inS], h5, h⟩
  | part nm ss =>
    refine ⟨_, at0, rfl, bqc false (by decide +kernel) (iteF ?_)⟩
    refine ⟨_, at0, sm3, by decide +kernel, bqc true (by decide +kernel) (iteT ?_)⟩
    exact ⟨_, S, S', rfl, hf, by simp [inS], h5, h⟩
  | each nm q ss =>
    refine ⟨_, at0, rfl, bqc false (by decide +kernel) (iteF ?_)⟩
    refine ⟨_, at0, sm3, by decide +kernel, bqc true (by decide +kernel) (iteT ?_)⟩
    exact ⟨_, S, S', rfl, hf, by simp [inS], h5, h⟩
theorem rowsL_app : ∀ a b : List Stp, rowsL (a ++ b) = rowsL a ++ rowsL b
  | [], b => by rw [show rowsL [] = [] by rw [rowsL]]; rfl
  | c :: a, b => by rw [List.cons_append, rowsL, rowsL_app a b, show rowsL (c :: a) = rowsS c ++ rowsL a by rw [rowsL], List.append_assoc]
theorem ro_of {g : Gc} (T : Txt g) (n : Nat) (DS : Df g (41 + 3 * n + 1) "step_rows" ["step"] (spSr n)) : Df g (42 + 3 * n + 1) "rows_of" ["steps"] (spRo n) := by
  refine df_of (k := 42 + 3 * n) (i := i_rows_of) T.p_rows_of T.sy sc_rows_of ok_rows_of (fun _ _ _ _ _ _ us hl => match us, hl with | [_], _ => rfl) spRo_len (fun Y ws M Q E F hE h => ?_)
  obtain ⟨ss, S, S', rfl, hf, h5, h⟩ := h
  refine ⟨_, (ss_cons (s_set (q_lstM a_nil) (g_name F 1)) (ss_cons (s_for F (i_tup (q_var F 0)) (g_name F 2) (ss_one (s_expr (q_met m_extend (q_var F 1) (a_cons (q_call F 0 DS (a_cons (q_var F 2) a_nil)) a_nil))))) (ss_one (s_ret (q_var F 1))))), ?_⟩
  have fl := (rows_few hf).1
  refine ⟨sm0, fun p np => ?_⟩
  refine ⟨fun j σ M' => ∃ S1 x, σ = [some (.d (.tuple (stDs ss))), some (.ref p), x] ∧ Keep M M' ∧ FitL S1 (ss.drop j) S' ∧ 5 ≤ S1.begun.length + n ∧ M' p = some (.lst ((rwD (rowsL (ss.take j))).map W.d)), ⟨S, _, rfl, keep_set (Keep.refl M) np, hf, h5, ?_⟩, fun _ _ _ _ => trivial, ?_, ?_⟩
  · rw [mset_same, List.take_zero, show rowsL [] = [] by rw [rowsL]]
    rfl
  · rintro j w σ M1 hj ⟨S1, x, rfl, k1, hf1, h51, hp1⟩
    obtain ⟨d, rfl, hd⟩ := getElem?_mapd hj
    rw [stDs_map, List.getElem?_map] at hd
    cases e : ss[j]? with
    | none => rw [e] at hd; cases hd
    | some s =>
      rw [e] at hd
      cases hd
      have hlt : j < ss.length := (List.getElem?_eq_some_iff.mp e).1
      have ed : ss.drop j = s :: ss.drop (j + 1) := by
        rw [List.drop_eq_getElem_cons hlt]
        have e := e
        rw [List.getElem?_eq_getElem hlt] at e
        rw [Option.some.inj e]
      have et : ss.take (j + 1) = ss.take j ++ [s] := by
        rw [List.take_succ, e]
        rfl
      rw [ed] at hf1
      obtain ⟨S2, g1, g2⟩ := hf1
      have er : rowsL (ss.take (j + 1)) = rowsL (ss.take j) ++ rowsS s := by
        rw [et, rowsL_app]
        show rowsL (ss.take j) ++ (rowsS s ++ []) = _
        rw [List.append_nil]
      have lt : (rowsL (ss.take (j + 1))).length ≤ (rowsL ss).length := by
        have : rowsL ss = rowsL (ss.take (j + 1)) ++ rowsL (ss.drop (j + 1)) := by rw [← rowsL_app, List.take_append_drop]
        rw [this, List.length_append]
        omega
      rw [er, List.length_append] at lt
      refine ⟨⟨_, hp1⟩, s, S1, S2, rfl, g1, h51, fun M2 k2 => ?_⟩
      refine ⟨_, k2 _ _ hp1, smL (by simp [rwD_len]; omega), ?_⟩
      refine ⟨S2, _, rfl, keep_set (k1.trans k2) np, g2, by rw [(fitS_ok s g1).2.1]; exact h51, ?_⟩
      rw [mset_same, er, rwD_app, List.map_append]
  · rintro σ M1 ⟨S1, x, rfl, k1, hf1, h51, hp1⟩
    rw [show ss.take ((stDs ss).map W.d).length = ss by rw [stDs_map, List.length_map, List.length_map, List.take_length]] at hp1
    exact h p M1 k1 hp1
theorem no_rows {g : Gc} (T : Txt g) : Df g 20 "rows_of" ["steps"] (spRo' 0) :=
  df_of (k := 19) (i := i_rows_of) T.p_rows_of T.sy sc_rows_of ok_rows_of (fun _ _ _ _ _ _ us hl => match us, hl with | [_], _ => rfl) (fun _ _ _ _ (h : False) => h.elim) (fun _ _ _ _ _ _ _ (h : False) => h.elim)
theorem d_rows {g : Gc} (T : Txt g) : ∀ n : Nat, Df g (43 + 3 * n) "rows_of" ["steps"] (spRo n) ∧ True
  | 0 => by
    have b := sr_of T 0 (bk_of T 0 20 (by decide) (no_rows T))
    exact ⟨ro_of T 0 b, trivial⟩
  | n + 1 => by
    have b := sr_of T (n + 1) (bk_of T (n + 1) (43 + 3 * n) (by omega) (d_rows T n).1)
    have c := ro_of T (n + 1) b
    have e2 : 42 + 3 * (n + 1) + 1 = 43 + 3 * (n + 1) := by omega
    exact ⟨by rw [← e2]; exact c, trivial⟩
def tNl : Str := "\n"
/-- a form's text -/
def spFt : SpD := fun ws M Q _ => ∃ ss, ws = [.d (.tuple (stDs ss))] ∧ IsForm ss ∧ ∀ M', Keep M M' → Q (.d (.str (Txt.join tNl (rowsL ss)))) M'
theorem spFt_len : ∀ ws M Q E, spFt ws M Q E → ws.length = 1 := by rintro _ _ _ _ ⟨ss, rfl, _⟩; rfl
theorem d_form_text {g : Gc} (T : Txt g) : Df g 59 "form_text" ["form"] spFt := by
  refine df_of (k := 58) (i := i_form_text) T.p_form_text T.sy sc_form_text ok_form_text (fun _ _ _ _ _ _ us hl => match us, hl with | [_], _ => rfl) ?_ (fun Y ws M Q E F hE h => ?_)
  · exact spFt_len
  · obtain ⟨ss, rfl, hf, h⟩ := h
    refine ⟨_, (ss_cons (s_expr (q_call F 0 (d_need_form T) (a_cons (q_var F 0) a_nil))) (ss_one (s_ret (q_met m_join q_str (a_cons (q_call F 1 (d_rows T 5).1 (a_cons (q_var F 0) a_nil)) a_nil))))), ?_⟩
    refine ⟨ss, rfl, hf, fun M1 k1 => ?_⟩
    obtain ⟨S', hf⟩ := hf
    refine ⟨⟨_, rfl⟩, ss, s0, S', rfl, hf, by decide, fun p M2 k2 hp => ?_⟩
    obtain ⟨fl, fs⟩ := rows_few hf
    refine ⟨_, hp, dataQ_of ⟨rowsL ss, rfl, ?_, h M2 (k1.trans k2)⟩⟩
    have a := sum_le fs
    have l1 : tNl.length = 1 := by decide +kernel
    show _ + _ * tNl.length ≤ 16777216
    have : (rowsL ss).length * 1500 ≤ 180 * 1500 := Nat.mul_le_mul_right _ fl
    rw [l1]
    omega
end Ms
set_option Elab.async false
set_option linter.all false
set_option maxRecDepth 100000
namespace Ms
open PySem PySem.Spec PyProof.Rows L2 Dl
/-- a comprehension that gives the things of a list in turn -/
theorem lcX {ws : List W} {kc : MH → Prop} {M1 : MH} {σ : SD} {vs : List Nat} {jt : Nat} {te : TEd} {R0 : List PyData → MH → Prop} (ds : List PyData) (e : ds.length = ws.length) (hz : ws.length ≤ 16000000) (hkc : ∀ D acc, M1 D = none → kc (mset M1 D (.lst acc)))
    (he : ∀ (j : Nat) w d, ws[j]? = some w → ds[j]? = some d → tgQ (.one jt) w (wipeD σ vs) fun σ2 => ∀ M2, Keep M1 M2 → ∀ R : W → MH → Prop, R (.d d) M2 → te σ2 M2 R) (q : R0 ds M1) :
    ∀ D, M1 D = none → ∃ I : Nat → List W → MH → Prop, I 0 [] (mset M1 D (.lst [])) ∧ (∀ j acc M2, I j acc M2 → kc M2 ∧ M2 D = some (.lst acc)) ∧
      (∀ j w acc M2, ws[j]? = some w → I j acc M2 → tgQ (.one jt) w (wipeD σ vs) fun σ2 => tAll σ2 M2 fun b M4 => if b = true then te σ2 M4 fun x M5 => M5 D = some (.lst acc) ∧ acc.length < sizeLine ∧ I (j + 1) (acc ++ [x]) (mset M5 D (.lst (acc ++ [x]))) else I (j + 1) acc M4) ∧
      (∀ acc M2, I ws.length acc M2 → dataQ R0 acc (mdel M2 D)) := by
  intro D nD
  refine ⟨fun j acc M2 => M2 = mset M1 D (.lst acc) ∧ acc = (ds.take j).map W.d, ⟨rfl, rfl⟩, ?_, ?_, ?_⟩
  · rintro j acc M2 ⟨rfl, _⟩
    exact ⟨hkc D acc nD, mset_same⟩
  · rintro j w acc M2 hj ⟨rfl, hacc⟩
    have hlt : j < ws.length := (List.getElem?_eq_some_iff.mp hj).1
    have hd : ds[j]? = some (ds[j]'(by omega)) := List.getElem?_eq_getElem (by omega)
    have len : acc.length < sizeLine := by
      rw [hacc, List.length_map, List.length_take, sizeLine_eq]
      omega
    have z := he j w _ hj hd
    dsimp only [tgQ, tAll]
    refine iteT (z _ (keep_new nD) _ ⟨mset_same, len, mset_mset, ?_⟩)
    rw [getElem?_take_succ hd, List.map_append, ← hacc]
    rfl
  · rintro acc M2 ⟨rfl, hacc⟩
    rw [← e, List.take_length] at hacc
    rw [hacc, mdel_mset nD]
    unfold dataQ
    rw [allD_map]
    exact q
/-! ### the law's own texts of a form -/
theorem d_L_kind_text {g : Gc} (T : Txt g) : Df g 1 "_law_kind_text" ["_law_kind_here"] spWr := by
  refine df_of (k := 0) (i := i_L_kind_text) T.p_L_kind_text T.sy sc_L_kind_text ok_L_kind_text (fun _ _ _ _ _ _ us hl => match us, hl with | [_], _ => rfl) ?_ (fun Y ws M Q E F hE h => ?_)
  · exact spWr_len
  · obtain ⟨k, rfl, hk, h⟩ := h
    refine ⟨_, (ss_cons (s_set (q_ite (t_cmp (o_eq F) (q_ix (q_var F 0) q_int) q_str) (q_sl (q_var F 0) (o_sm q_int) o_no) (q_ix (q_var F 0) q_int)) (g_name F 1)) (ss_one (s_ret (q_met m_join q_str (a_cons (q_bin o_add (q_lst (a_cons (q_ix (q_var F 0) q_int) a_nil)) (q_lc (own := [("_law_part", 2)]) F ⟨_, ["_law_kind_here", "_law_some", "_law_part"], [2], [2], [], ["str"], false, true⟩ (.one 2) ⟨rfl, rfl, ⟨rfl, by decide +kernel, by decide +kernel, by decide +kernel, by decide +kernel⟩, by decide +kernel, by decide +kernel, rfl, rfl⟩ (by decide) (i_tup (q_var F 1)) (fun _ F hw => ⟨(pgN F 2), ts_nil, (q_callT F 0 c_strX T.n_str (by decide +kernel) (a_cons (q_var F 2) a_nil))⟩))) a_nil))))), ?_⟩
    have op : ∀ (t : Str) (zs : List Str), Opts zs → t.length = 4 → ∀ Q' : PyData → Prop, Q' (.str (t ++ sp_ ++ Txt.join sp_ zs)) → (∃ ys : List Str, (PyData.str t :: zs.map PyData.str) = ys.map PyData.str ∧ (ys.map (·.length)).sum + ys.length * sp_.length ≤ 16777216 ∧ Q' (.str (Txt.join sp_ ys))) := by
      intro t zs hz ht Q' q
      refine ⟨t :: zs, rfl, ?_, ?_⟩
      · have := opts_join hz
        have a := sum_le (l := zs) (n := 8) fun z hz' => name_len8 (hz.nm z hz')
        have l1 : sp_.length = 1 := by decide +kernel
        have : zs.length * 8 ≤ 6 * 8 := Nat.mul_le_mul_right _ hz.b
        have := hz.b
        rw [List.map_cons, List.sum_cons, List.length_cons, l1]
        omega
      · have ne : zs ≠ [] := by have := hz.a; intro e; rw [e] at this; simp at this
        rw [join_cons ne]
        exact q
    cases k with
    | pick zs =>
      have := hk.b
      refine ⟨_, at0, rfl, bqc false (by decide +kernel) ?_⟩
      refine iteF ?_
      refine ⟨_, at1, ?_⟩
      refine ⟨⟨_, rfl⟩, _, at0, sm1, ?_⟩
      refine lcX (jt := 2) (zs.map PyData.str) (by simp) (by simp; omega) (fun _ _ _ => trivial) ?_ ?_
      · intro j w d hj hd
        obtain ⟨d', rfl, hd'⟩ := getElem?_mapd hj
        rw [hd] at hd'
        cases hd'
        obtain ⟨z, _, rfl⟩ := List.mem_map.mp (List.mem_of_getElem? hd)
        intro M2 k2 R r
        exact r
      · refine ⟨smL (by simp; omega), ?_⟩
        exact op "pick" zs hk (by decide +kernel) (fun d => Q (.d d) M) h
    | some zs =>
      have := hk.b
      refine ⟨_, at0, rfl, bqc false (by decide +kernel) ?_⟩
      refine iteF ?_
      refine ⟨_, at1, ?_⟩
      refine ⟨⟨_, rfl⟩, _, at0, sm1, ?_⟩
      refine lcX (jt := 2) (zs.map PyData.str) (by simp) (by simp; omega) (fun _ _ _ => trivial) ?_ ?_
      · intro j w d hj hd
        obtain ⟨d', rfl, hd'⟩ := getElem?_mapd hj
        rw [hd] at hd'
        cases hd'
        obtain ⟨z, _, rfl⟩ := List.mem_map.mp (List.mem_of_getElem? hd)
        intro M2 k2 R r
        exact r
      · refine ⟨smL (by simp; omega), ?_⟩
        exact op "some" zs hk (by decide +kernel) (fun d => Q (.d d) M) h
    | count a b =>
      obtain ⟨h0, h1, h2⟩ := hk
      have a1 := shI_len h0 (by omega)
      have a2 := shI_len (n := b) (by omega) h2
      have l1 : sp_.length = 1 := by decide +kernel
      have l5 : ("count" : Str).length = 5 := by decide +kernel
      refine ⟨_, at0, rfl, bqc true (by decide +kernel) ?_⟩
      refine iteT ?_
      refine ⟨⟨_, rfl⟩, _, at0, sm1, ?_⟩
      refine lcX (jt := 2) (ws := [W.d (.int a), .d (.int b)]) [.str (shI a), .str (shI b)] rfl (show 2 ≤ 16000000 by decide) (fun _ _ _ => trivial) ?_ ?_
      · intro j w d hj hd M2 k2 R r
        match j, hj, hd with
        | 0, hj, hd => cases hj; cases hd; exact ⟨log_few h0 (by omega), r⟩
        | 1, hj, hd => cases hj; cases hd; exact ⟨log_few (by omega) h2, r⟩
        | j + 2, hj, hd => cases hj
      · refine ⟨sm3, [("count" : Str), shI a, shI b], rfl, ?_, ?_⟩
        · show ([("count" : Str), shI a, shI b].map (·.length)).sum + 3 * sp_.length ≤ 16777216
          rw [l1]
          simp
          omega
        · have e : Txt.join sp_ [("count" : Str), shI a, shI b] = kdT (.count a b) := by
            rw [join_two, join_two, join_one]
            show _ = ("count " : Str) ++ shI a ++ sp_ ++ shI b
            rw [show ("count " : Str) = "count" ++ sp_ by decide +kernel, sapp, sapp, sapp, sapp, sapp]
          show Q (.d (.str (Txt.join sp_ [("count" : Str), shI a, shI b]))) M
          rw [e]
          exact h
/-- .. of a condition -/
def spLc : Nat → SpD
  | 0 => spNo
  | n + 1 => fun ws M Q _ => ∃ (S : Sc) (own : Str) (wh : Bool) (c : Cn), ws = [.d (cnD c)] ∧ CnG S own wh (n + 1) c ∧ n + 1 ≤ 3 ∧ Q (.d (.str (cnT c))) M
theorem spLc_len {n : Nat} : ∀ ws M Q E, spLc n ws M Q E → ws.length = 1 := by
  cases n with
  | zero => intro _ _ _ _ h; exact h.elim
  | succ n => rintro _ _ _ _ ⟨S, own, wh, c, rfl, _⟩; rfl
theorem d_L_condition_text {g : Gc} (T : Txt g) : ∀ n : Nat, Df g (1 + n) "_law_condition_text" ["_law_condition_here"] (spLc n)
  | 0 => df_of (k := 0) (i := i_L_condition_text) T.p_L_condition_text T.sy sc_L_condition_text ok_L_condition_text (fun _ _ _ _ _ _ us hl => match us, hl with | [_], _ => rfl) (fun _ _ _ _ (h : False) => h.elim) (fun _ _ _ _ _ _ _ (h : False) => h.elim)
  | n + 1 => by
    refine df_of (k := 1 + n) (i := i_L_condition_text) T.p_L_condition_text T.sy sc_L_condition_text ok_L_condition_text (fun _ _ _ _ _ _ us hl => match us, hl with | [_], _ => rfl) ?_ (fun Y ws M Q E F hE h => ?_)
    · exact spLc_len
    · obtain ⟨S, own, wh, c, rfl, hc, hn, h⟩ := h
      refine ⟨_, (ss_cons (s_set (q_ix (q_var F 0) q_int) (g_name F 1)) (ss_cons (s_if (t_cmp (o_eq F) (q_var F 1) q_str) (ss_one (s_ret (q_bin o_add q_str (q_call F 1 (d_L_condition_text T n) (a_cons (q_ix (q_var F 0) q_int) a_nil))))) ss_nil) (ss_cons (s_if (t_cmp (o_in F) (q_var F 1) (q_tup (a_cons q_str (a_cons q_str a_nil)))) (ss_cons (s_setlc (own := [("_law_part", 3)]) F 2 ⟨_, ["_law_condition_here", "_law_word", "_law_some", "_law_part"], [3], [3], [], ["_law_condition_text"], false, true⟩ (.one 3) ⟨rfl, rfl, ⟨rfl, by decide +kernel, by decide +kernel, by decide +kernel, by decide +kernel⟩, by decide +kernel, by decide +kernel, rfl, rfl⟩ (by decide) (i_tup (q_ix (q_var F 0) q_int)) (fun _ F hw => ⟨(pgN F 3), ts_nil, (q_callW hw F 0 (d_L_condition_text T n) (a_cons (q_var F 3) a_nil))⟩)) (ss_one (s_ret (q_bin o_add (q_bin o_add q_str (q_met m_join (q_bin o_add (q_bin o_add q_str (q_var F 1)) q_str) (a_cons (q_var F 2) a_nil))) q_str)))) ss_nil) (ss_cons (s_if (t_cmp (o_in F) (q_var F 1) (q_tup (a_cons q_str (a_cons q_str a_nil)))) (ss_one (s_ret (q_bin o_add (q_bin o_add (q_bin o_add (q_bin o_add (q_var F 1) q_str) (q_ix (q_var F 0) q_int)) q_str) (q_call F 1 (d_L_condition_text T n) (a_cons (q_ix (q_var F 0) q_int) a_nil))))) ss_nil) (ss_one (s_ret (q_bin o_add (q_bin o_add (q_bin o_add (q_bin o_add (q_ix (q_var F 0) q_int) q_str) (q_var F 1)) q_str) (q_callT F 0 c_strX T.n_str (by decide +kernel) (a_cons (q_ix (q_var F 0) q_int) a_nil))))))))), ?_⟩
      have l1 : sp_.length = 1 := by decide +kernel
      have l4 : ("not " : Str).length = 4 := by decide +kernel
      cases hc with
      | @pc _ _ _ w nm y k r e1 e2 e3 e4 e5 =>
        have wk : PyData.eqv (.str w) (.str "not") = false ∧ inOk (.str w) joinD = true ∧ inD (.str w) joinD = false ∧ inOk (.str w) anyD = true ∧ inD (.str w) anyD = false := by
          cases k with
          | pick zs => obtain ⟨rfl, _⟩ := e3; decide +kernel
          | some zs => obtain ⟨rfl, _⟩ := e3; decide +kernel
          | count a b => obtain ⟨rfl | rfl, _⟩ := e3 <;> decide +kernel
        obtain ⟨w1, w2, w3, w4, w5⟩ := wk
        obtain ⟨ly, lw⟩ := strY_len e3 e5
        have ln := name_len8 e4
        rw [cnT_pc] at h
        refine ⟨_, at0, rfl, bqc false w1 (iteF ?_)⟩
        refine ⟨sm2, w2, bqc false w3 (iteF ?_)⟩
        refine ⟨sm2, w4, bqc false w5 (iteF ?_)⟩
        refine ⟨_, at1, smL (show nm.length + sp_.length ≤ 16000000 by omega), smL (show (nm ++ sp_).length + w.length ≤ 16000000 by rw [len_app]; omega), smL (show (nm ++ sp_ ++ w).length + sp_.length ≤ 16000000 by rw [len_app, len_app]; omega), _, at2, ?_⟩
        have z : small ((nm ++ sp_ ++ w ++ sp_).length + (strY y).length) := smL (by rw [len_app, len_app, len_app]; omega)
        cases k with
        | pick zs =>
          obtain ⟨rfl, z', hz, rfl⟩ := e3
          exact ⟨z, h⟩
        | some zs =>
          obtain ⟨rfl, z', hz, rfl⟩ := e3
          exact ⟨z, h⟩
        | count a b =>
          obtain ⟨hw, m, rfl, m0, m1⟩ := e3
          exact ⟨log_few m0 m1, z, h⟩
      | @nt _ _ _ c hc =>
        obtain ⟨m, rfl⟩ := cng_pos hc
        have tl := cnT_len hc (by omega)
        rw [cnT_nt] at h
        refine ⟨_, at0, rfl, bqc true (by decide +kernel) (iteT ?_)⟩
        refine ⟨_, at1, S, own, wh, c, rfl, hc, by omega, ?_⟩
        exact ⟨smL (show ("not " : Str).length + (cnT c).length ≤ 16000000 by omega), h⟩
      | @an _ _ w nm c hw he hn2 hc =>
        obtain ⟨m, rfl⟩ := cng_pos hc
        have tl := cnT_len hc (by omega)
        have ln := name_len8 hn2
        have lw : w.length ≤ 5 := by rcases hw with rfl | rfl <;> decide +kernel
        rw [cnT_an] at h
        refine ⟨_, at0, rfl, bqc false (by rcases hw with rfl | rfl <;> decide +kernel) (iteF ?_)⟩
        refine ⟨sm2, by rcases hw with rfl | rfl <;> decide +kernel, bqc false (by rcases hw with rfl | rfl <;> decide +kernel) (iteF ?_)⟩
        refine ⟨sm2, by rcases hw with rfl | rfl <;> decide +kernel, bqc true (by rcases hw with rfl | rfl <;> decide +kernel) (iteT ?_)⟩
        refine ⟨smL (show w.length + sp_.length ≤ 16000000 by omega), _, at1, smL (show (w ++ sp_).length + nm.length ≤ 16000000 by rw [len_app]; omega), smL (show (w ++ sp_ ++ nm).length + sp_.length ≤ 16000000 by rw [len_app, len_app]; omega), ?_⟩
        refine ⟨_, at2, S, nm, false, c, rfl, hc, by omega, ?_⟩
        exact ⟨smL (show (w ++ sp_ ++ nm ++ sp_).length + (cnT c).length ≤ 16000000 by rw [len_app, len_app, len_app]; omega), h⟩
      | @jn _ _ _ w cs hw h2 h3 hc =>
        have lw : w.length ≤ 3 := by rcases hw with rfl | rfl <;> decide +kernel
        have lc : ∀ z ∈ cs.map cnT, z.length ≤ 1400 := by
          intro z hz
          obtain ⟨c, hc', rfl⟩ := List.mem_map.mp hz
          exact cnT_len (hc c hc') (by omega)
        refine ⟨_, at0, rfl, bqc false (by rcases hw with rfl | rfl <;> decide +kernel) (iteF ?_)⟩
        refine ⟨sm2, by rcases hw with rfl | rfl <;> decide +kernel, bqc true (by rcases hw with rfl | rfl <;> decide +kernel) (iteT ?_)⟩
        refine ⟨_, at1, ?_⟩
        refine lcX (jt := 3) ((cs.map cnT).map PyData.str) (by simp [cnDs_map]) (by simp [cnDs_map]; omega) (fun _ _ _ => trivial) ?_ ?_
        · intro j w' d hj hd
          obtain ⟨d', rfl, hd'⟩ := getElem?_mapd hj
          rw [cnDs_map, List.getElem?_map] at hd'
          rw [List.getElem?_map, List.getElem?_map] at hd
          cases e : cs[j]? with
          | none => rw [e] at hd; cases hd
          | some c =>
            rw [e] at hd hd'
            cases hd
            cases hd'
            have hcc := hc c (List.mem_of_getElem? e)
            obtain ⟨m, rfl⟩ := cng_pos hcc
            intro M2 k2 R r
            exact ⟨S, own, wh, c, rfl, hcc, by omega, r⟩
        · have e : ("( " : Str) ++ Txt.join (sp_ ++ w ++ sp_) (cs.map cnT) ++ " )" = cnT (.jn w cs) := by
            match cs, h2 with
            | c :: r, _ => rw [cnT_jn]
          have lj := join_le (s := sp_ ++ w ++ sp_) (k := 5) lc (by rw [len_app, len_app]; omega)
          have lm : (cs.map cnT).length * (1400 + 5) ≤ 3 * 1405 := Nat.mul_le_mul_right _ (by rw [List.length_map]; exact h3)
          have a := sum_le lc
          have la : (cs.map cnT).length * 1400 ≤ 3 * 1400 := Nat.mul_le_mul_right _ (by rw [List.length_map]; exact h3)
          have lb : (cs.map cnT).length * (sp_ ++ w ++ sp_).length ≤ 3 * 5 := Nat.mul_le_mul (by rw [List.length_map]; exact h3) (by rw [len_app, len_app]; omega)
          have l2 : ("( " : Str).length = 2 := by decide +kernel
          have l2' : (" )" : Str).length = 2 := by decide +kernel
          refine ⟨smL (show sp_.length + w.length ≤ 16000000 by omega), smL (show (sp_ ++ w).length + sp_.length ≤ 16000000 by rw [len_app]; omega), ⟨_, rfl⟩, cs.map cnT, rfl, by show _ + _ * (sp_ ++ w ++ sp_).length ≤ 16777216; omega, ?_⟩
          refine ⟨smL (show ("( " : Str).length + (Txt.join (sp_ ++ w ++ sp_) (cs.map cnT)).length ≤ 16000000 by omega), smL (show (("( " : Str) ++ Txt.join (sp_ ++ w ++ sp_) (cs.map cnT)).length + (" )" : Str).length ≤ 16000000 by rw [len_app]; omega), ?_⟩
          rw [← e] at h
          exact h
/-- .. of steps -/
def spLr : Nat → SpD
  | 0 => spNo
  | n + 1 => fun ws M Q _ => ∃ ss S S', ws = [.d (.tuple (stDs ss))] ∧ FitL S ss S' ∧ 5 ≤ S.begun.length + n ∧ ∀ p M', Keep M M' → M' p = some (.lst ((rwD (rowsL ss)).map W.d)) → Q (.ref p) M'
theorem spLr_len {n : Nat} : ∀ ws M Q E, spLr n ws M Q E → ws.length = 1 := by
  cases n with
  | zero => intro _ _ _ _ h; exact h.elim
  | succ n => rintro _ _ _ _ ⟨ss, S, S', rfl, _⟩; rfl
theorem no_lr {n : Nat} {s : Stp} {S S' : Sc} (h : FitS S s S') (h5 : 5 ≤ S.begun.length + n) : 1 ≤ n := by
  have := (fitS_can h).2.2
  omega
theorem d_L_rows {g : Gc} (T : Txt g) : ∀ n : Nat, Df g (5 + n) "_law_rows" ["_law_steps_here"] (spLr n)
  | 0 => df_of (k := 4) (i := i_L_rows) T.p_L_rows T.sy sc_L_rows ok_L_rows (fun _ _ _ _ _ _ us hl => match us, hl with | [_], _ => rfl) (fun _ _ _ _ (h : False) => h.elim) (fun _ _ _ _ _ _ _ (h : False) => h.elim)
  | n + 1 => by
    refine df_of (k := 5 + n) (i := i_L_rows) T.p_L_rows T.sy sc_L_rows ok_L_rows (fun _ _ _ _ _ _ us hl => match us, hl with | [_], _ => rfl) ?_ (fun Y ws M Q E F hE h => ?_)
    · exact spLr_len
    · obtain ⟨ss, S, S', rfl, hf, h5, h⟩ := h
      refine ⟨_, (ss_cons (s_set (q_lstM a_nil) (g_name F 1)) (ss_cons (s_for F (i_tup (q_var F 0)) (g_name F 2) (ss_cons (s_set (q_ix (q_var F 2) q_int) (g_name F 3)) (ss_one (s_if (t_cmp (o_eq F) (q_var F 3) q_str) (ss_one (s_expr (q_met m_append (q_var F 1) (a_cons (q_bin o_add (q_bin o_add (q_bin o_add q_str (q_ix (q_var F 2) q_int)) q_str) (q_call F 0 (d_L_kind_text T) (a_cons (q_ix (q_var F 2) q_int) a_nil))) a_nil)))) (ss_one (s_if (t_cmp (o_in F) (q_var F 3) (q_tup (a_cons q_str (a_cons q_str a_nil)))) (ss_one (s_expr (q_met m_append (q_var F 1) (a_cons (q_bin o_add (q_bin o_add (q_var F 3) q_str) (q_call F 1 (d_L_condition_text T 3) (a_cons (q_ix (q_var F 2) q_int) a_nil))) a_nil)))) (ss_one (s_if (t_cmp (o_eq F) (q_var F 3) q_str) (ss_one (s_expr (q_met m_append (q_var F 1) (a_cons (q_bin o_add (q_bin o_add (q_bin o_add q_str (q_ix (q_var F 2) q_int)) q_str) (q_call F 1 (d_L_condition_text T 3) (a_cons (q_ix (q_var F 2) q_int) a_nil))) a_nil)))) (ss_one (s_if (t_cmp (o_eq F) (q_var F 3) q_str) (ss_cons (s_set (q_ite (t_cmp (o_eq F) (q_ix (q_var F 2) q_int) (q_tup a_nil)) (q_lst a_nil) (q_bin o_addL (q_lst (a_cons q_str a_nil)) (q_call F 2 (d_L_rows T n) (a_cons (q_ix (q_var F 2) q_int) a_nil)))) (g_name F 4)) (ss_cons (s_expr (q_met m_append (q_var F 1) (a_cons (q_bin o_add q_str (q_call F 1 (d_L_condition_text T 3) (a_cons (q_ix (q_var F 2) q_int) a_nil))) a_nil))) (ss_one (s_expr (q_met m_extend (q_var F 1) (a_cons (q_bin o_addL (q_bin o_addL (q_call F 2 (d_L_rows T n) (a_cons (q_ix (q_var F 2) q_int) a_nil)) (q_var F 4)) (q_lst (a_cons q_str a_nil))) a_nil)))))) (ss_one (s_expr (q_met m_extend (q_var F 1) (a_cons (q_bin o_addL (q_bin o_addL (q_lst (a_cons (q_met m_join q_str (a_cons (q_sl (q_var F 2) o_no (o_sm (q_neg q_int))) a_nil)) a_nil)) (q_call F 2 (d_L_rows T n) (a_cons (q_ix (q_var F 2) (q_neg q_int)) a_nil))) (q_lst (a_cons q_str a_nil))) a_nil)))))))))))))) (ss_one (s_ret (q_var F 1))))), ?_⟩
      have fl := (rows_few hf).1
      have l1 : sp_.length = 1 := by decide +kernel
      refine ⟨sm0, fun p np => ?_⟩
      refine ⟨fun j σ M' => ∃ S1 x y z, σ = [some (.d (.tuple (stDs ss))), some (.ref p), x, y, z] ∧ Keep M M' ∧ FitL S1 (ss.drop j) S' ∧ 5 ≤ S1.begun.length + n ∧ M' p = some (.lst ((rwD (rowsL (ss.take j))).map W.d)), ⟨S, _, _, _, rfl, keep_set (Keep.refl M) np, hf, h5, ?_⟩, fun _ _ _ _ => trivial, ?_, ?_⟩
      · rw [mset_same, List.take_zero, show rowsL [] = [] by rw [rowsL]]
        rfl
      · rintro j w σ M1 hj ⟨S1, x, y, z, rfl, k1, hf1, h51, hp1⟩
        obtain ⟨d, rfl, hd⟩ := getElem?_mapd hj
        rw [stDs_map, List.getElem?_map] at hd
        cases e : ss[j]? with
        | none => rw [e] at hd; cases hd
        | some s =>
          rw [e] at hd
          cases hd
          have hlt : j < ss.length := (List.getElem?_eq_some_iff.mp e).1
          have ed : ss.drop j = s :: ss.drop (j + 1) := by
            rw [List.drop_eq_getElem_cons hlt]
            have e := e
            rw [List.getElem?_eq_getElem hlt] at e
            rw [Option.some.inj e]
          have et : ss.take (j + 1) = ss.take j ++ [s] := by
            rw [List.take_succ, e]
            rfl
          rw [ed] at hf1
          obtain ⟨S2, g1, g2⟩ := hf1
          have er : rowsL (ss.take (j + 1)) = rowsL (ss.take j) ++ rowsS s := by
            rw [et, rowsL_app]
            show rowsL (ss.take j) ++ (rowsS s ++ []) = _
            rw [List.append_nil]
          have lt : (rowsL (ss.take (j + 1))).length ≤ (rowsL ss).length := by
            have : rowsL ss = rowsL (ss.take (j + 1)) ++ rowsL (ss.drop (j + 1)) := by rw [← rowsL_app, List.take_append_drop]
            rw [this, List.length_append]
            omega
          rw [er, List.length_append] at lt
          have nx : 5 ≤ S2.begun.length + n := by rw [(fitS_ok s g1).2.1]; exact h51
          have fin : ∀ (M2 : MH) (ws : List W) (x y z : Option W), Keep M M2 → ws = (rwD (rowsL (ss.take j)) ++ rwD (rowsS s)).map W.d → ∃ S1 x' y' z', [some (W.d (.tuple (stDs ss))), some (.ref p), x, y, z] = [some (W.d (.tuple (stDs ss))), some (.ref p), x', y', z'] ∧ Keep M (mset M2 p (.lst ws)) ∧ FitL S1 (ss.drop (j + 1)) S' ∧ 5 ≤ S1.begun.length + n ∧ (mset M2 p (.lst ws)) p = some (.lst ((rwD (rowsL (ss.take (j + 1)))).map W.d)) := by
            intro M2 ws x y z k2 hw
            refine ⟨S2, _, _, _, rfl, keep_set k2 np, g2, nx, ?_⟩
            rw [mset_same, er, rwD_app, hw]
          cases s with
          | ask nm k =>
            obtain ⟨_, hn, hk, rfl⟩ := g1
            have l8 := name_len8 hn.1
            have lk := kdT_len hk
            have l4 : ("ask " : Str).length = 4 := by decide +kernel
            refine ⟨_, at0, ?_⟩
            refine ⟨rfl, bqc true (by decide +kernel) (iteT ?_)⟩
            refine ⟨⟨_, hp1⟩, _, at1, smL (show ("ask " : Str).length + nm.length ≤ 16000000 by omega), smL (show (("ask " : Str) ++ nm).length + sp_.length ≤ 16000000 by rw [len_app]; omega), ?_⟩
            refine ⟨_, at2, k, rfl, hk, smL (show (("ask " : Str) ++ nm ++ sp_).length + (kdT k).length ≤ 16000000 by rw [len_app, len_app]; omega), ?_⟩
            refine ⟨_, hp1, smL (by simp [rwD_len]; omega), fin M1 _ _ _ _ k1 ?_⟩
            rw [List.map_append, show rowsS (.ask nm k) = [("ask " : Str) ++ nm ++ sp_ ++ kdT k] by rw [rowsS]]
            rfl
          | con w c =>
            obtain ⟨_, hw, hc, rfl⟩ := g1
            have tl := cnT_len hc (Nat.le_refl _)
            have lw : w.length ≤ 4 := by rcases hw with rfl | rfl <;> decide +kernel
            refine ⟨_, at0, ?_⟩
            refine ⟨rfl, bqc false (by rcases hw with rfl | rfl <;> decide +kernel) (iteF ?_)⟩
            refine ⟨sm2, by rcases hw with rfl | rfl <;> decide +kernel, bqc true (by rcases hw with rfl | rfl <;> decide +kernel) (iteT ?_)⟩
            refine ⟨⟨_, hp1⟩, smL (show w.length + sp_.length ≤ 16000000 by omega), ?_⟩
            refine ⟨_, at1, S1.tick, _, _, c, rfl, hc, Nat.le_refl _, ?_⟩
            refine ⟨smL (show (w ++ sp_).length + (cnT c).length ≤ 16000000 by rw [len_app]; omega), ?_⟩
            refine ⟨_, hp1, smL (by simp [rwD_len]; omega), fin M1 _ _ _ _ k1 ?_⟩
            rw [List.map_append, show rowsS (.con w c) = [w ++ sp_ ++ cnT c] by rw [rowsS]]
            rfl
          | leave nm c =>
            obtain ⟨_, hn, hm, hc, rfl⟩ := g1
            have tl := cnT_len hc (Nat.le_refl _)
            have l8 := name_len8 hn
            have l6 : ("leave " : Str).length = 6 := by decide +kernel
            refine ⟨_, at0, ?_⟩
            refine ⟨rfl, bqc false (by decide +kernel) (iteF ?_)⟩
            refine ⟨sm2, by decide +kernel, bqc false (by decide +kernel) (iteF ?_)⟩
            refine ⟨rfl, bqc true (by decide +kernel) (iteT ?_)⟩
            refine ⟨⟨_, hp1⟩, _, at1, smL (show ("leave " : Str).length + nm.length ≤ 16000000 by omega), smL (show (("leave " : Str) ++ nm).length + sp_.length ≤ 16000000 by rw [len_app]; omega), ?_⟩
            refine ⟨_, at2, S1.tick, _, _, c, rfl, hc, Nat.le_refl _, ?_⟩
            refine ⟨smL (show (("leave " : Str) ++ nm ++ sp_).length + (cnT c).length ≤ 16000000 by rw [len_app, len_app]; omega), ?_⟩
            refine ⟨_, hp1, smL (by simp [rwD_len]; omega), fin M1 _ _ _ _ k1 ?_⟩
            rw [List.map_append, show rowsS (.leave nm c) = [("leave " : Str) ++ nm ++ sp_ ++ cnT c] by rw [rowsS]]
            rfl
          | iff c a b =>
            have n1 := no_lr g1 h51
            obtain ⟨n, rfl⟩ : ∃ n', n = n' + 1 := ⟨n - 1, by omega⟩
            obtain ⟨can, hc, T1, T2, h1, h2, rfl⟩ := g1
            have tl := cnT_len hc (Nat.le_refl _)
            have l3 : ("if " : Str).length = 3 := by decide +kernel
            have e1 : (S1.tick.push tIf tNo).begun.length = S1.begun.length + 1 := by simp [Sc.push, Sc.tick]
            have hl : rowsS (.iff c a b) = [("if " : Str) ++ cnT c] ++ rowsL a ++ (if b.isEmpty = true then [] else [tElse] ++ rowsL b) ++ [tEnd] := by rw [rowsS]
            have fa := (rows_few h1).1
            have fb := (rows_few h2).1
            refine ⟨_, at0, ?_⟩
            refine ⟨rfl, bqc false (by decide +kernel) (iteF ?_)⟩
            refine ⟨sm2, by decide +kernel, bqc false (by decide +kernel) (iteF ?_)⟩
            refine ⟨rfl, bqc false (by decide +kernel) (iteF ?_)⟩
            refine ⟨rfl, bqc true (by decide +kernel) (iteT ?_)⟩
            have ev : PyData.eqv (.tuple (stDs b)) (.tuple []) = b.isEmpty := by
              rw [eqv_tup_nil, stDs_map]
              cases b <;> rfl
            have eo : eqOk (.tuple (stDs b)) (.tuple []) = true := by simp [eqOk, isTup]
            obtain ⟨o, ho⟩ : ∃ o, o = (if b.isEmpty = true then [] else [tElse] ++ rowsL b) := ⟨_, rfl⟩
            have lo : o.length ≤ 1 + (rowsL b).length := by
              rw [ho]
              split
              · simp
              · simp; omega
            refine sq_cut (fun σ M' => σ = [some (.d (.tuple (stDs ss))), some (.ref p), some (.d (stD (.iff c a b))), some (.d (.str "if")), some (.d (.list (rwD o)))] ∧ Keep M1 M') (fun N hN => ?_) ?_
            · refine ⟨_, rfl, sm0, eo, ?_⟩
              cases hb : b.isEmpty with
              | true =>
                refine bqc true (by rw [ev, hb]) ?_
                refine iteT ?_
                refine ⟨sm0, hN _ _ ⟨?_, Keep.refl _⟩⟩
                rw [hb, if_pos rfl] at ho
                rw [ho]
                rfl
              | false =>
                refine bqc false (by rw [ev, hb]) ?_
                refine iteF ?_
                refine ⟨sm1, _, rfl, b, T1, T2, rfl, h2, by rw [(fitL_ok a h1).2.1, e1]; omega, fun q M2 k2 hq => ?_⟩
                refine ⟨_, hq, dataQ_of ⟨smL (by simp [rwD_len]; omega), hN _ _ ⟨?_, k2⟩⟩⟩
                rw [hb, if_neg Bool.false_ne_true] at ho
                rw [ho, rwD_app]
                rfl
            rintro _ M2 ⟨rfl, k2⟩
            have hp2 := k2 _ _ hp1
            refine ⟨⟨_, hp2⟩, _, at1, S1.tick, _, _, c, rfl, hc, Nat.le_refl _, ?_⟩
            refine ⟨smL (show ("if " : Str).length + (cnT c).length ≤ 16000000 by omega), _, hp2, smL (by simp [rwD_len]; omega), ?_⟩
            refine ⟨⟨_, mset_same⟩, _, at2, a, S1.tick.push tIf tNo, T1, rfl, h1, by rw [e1]; omega, fun q M3 k3 hq => ?_⟩
            have hp3 := k3 _ _ mset_same
            refine ⟨_, hq, dataQ_of ⟨smL (by simp [rwD_len]; omega), ?_⟩⟩
            refine ⟨sm1, smL (by simp [rwD_len]; omega), _, hp3, ?_⟩
            refine ⟨smL (by simp [rwD_len]; omega), fin M3 _ _ _ _ ?_ ?_⟩
            · intro x u e
              have nx : x ≠ p := by rintro rfl; rw [np] at e; cases e
              exact k3 x u (by rw [mset_ne nx]; exact k2 x u (k1 x u e))
            · rw [hl, ← ho]
              simp [rwD, List.map_append]
          | part nm ss' =>
            have n1 := no_lr g1 h51
            obtain ⟨n, rfl⟩ : ∃ n', n = n' + 1 := ⟨n - 1, by omega⟩
            obtain ⟨can, hn, T1, h1, rfl⟩ := g1
            have e1 : ((S1.tick.name nm).push tPart nm).begun.length = S1.begun.length + 1 := by simp [Sc.push, Sc.name, Sc.tick]
            have hl : rowsS (.part nm ss') = [Txt.join sp_ [tPart, nm]] ++ rowsL ss' ++ [tEnd] := by rw [rowsS]
            have fa := (rows_few h1).1
            have l8 := name_len8 hn.1
            have lp : tPart.length = 4 := by decide +kernel
            refine ⟨_, at0, ?_⟩
            refine ⟨rfl, bqc false (by decide +kernel) (iteF ?_)⟩
            refine ⟨sm2, by decide +kernel, bqc false (by decide +kernel) (iteF ?_)⟩
            refine ⟨rfl, bqc false (by decide +kernel) (iteF ?_)⟩
            refine ⟨rfl, bqc false (by decide +kernel) (iteF ?_)⟩
            refine ⟨⟨_, hp1⟩, ⟨_, rfl⟩, [tPart, nm], rfl, by show ([tPart, nm].map (·.length)).sum + [tPart, nm].length * sp_.length ≤ 16777216; simp; omega, ?_⟩
            refine ⟨sm1, _, rfl, ss', (S1.tick.name nm).push tPart nm, T1, rfl, h1, by rw [e1]; omega, fun q M2 k2 hq => ?_⟩
            refine ⟨_, hq, dataQ_of ⟨smL (by simp [rwD_len]; omega), ?_⟩⟩
            refine ⟨sm1, smL (by simp [rwD_len]; omega), _, k2 _ _ hp1, ?_⟩
            refine ⟨smL (by simp [rwD_len]; omega), fin M2 _ _ _ _ (k1.trans k2) ?_⟩
            rw [hl]
            simp [rwD, List.map_append]
          | each nm q ss' =>
            have n1 := no_lr g1 h51
            obtain ⟨n, rfl⟩ : ∃ n', n = n' + 1 := ⟨n - 1, by omega⟩
            obtain ⟨can, hn, ho, hq, hl0, T1, h1, rfl⟩ := g1
            have e1 : ((S1.tick.name nm).pushE nm).begun.length = S1.begun.length + 1 := by simp [Sc.pushE, Sc.name, Sc.tick]
            have hl : rowsS (.each nm q ss') = [Txt.join sp_ [tEach, nm, q]] ++ rowsL ss' ++ [tEnd] := by rw [rowsS]
            have fa := (rows_few h1).1
            have l8 := name_len8 hn.1
            have l9 := name_len8 hq
            have lp : tEach.length = 4 := by decide +kernel
            refine ⟨_, at0, ?_⟩
            refine ⟨rfl, bqc false (by decide +kernel) (iteF ?_)⟩
            refine ⟨sm2, by decide +kernel, bqc false (by decide +kernel) (iteF ?_)⟩
            refine ⟨rfl, bqc false (by decide +kernel) (iteF ?_)⟩
            refine ⟨rfl, bqc false (by decide +kernel) (iteF ?_)⟩
            refine ⟨⟨_, hp1⟩, ⟨_, rfl⟩, [tEach, nm, q], rfl, by show ([tEach, nm, q].map (·.length)).sum + [tEach, nm, q].length * sp_.length ≤ 16777216; simp; omega, ?_⟩
            refine ⟨sm1, _, rfl, ss', (S1.tick.name nm).pushE nm, T1, rfl, h1, by rw [e1]; omega, fun q' M2 k2 hq' => ?_⟩
            refine ⟨_, hq', dataQ_of ⟨smL (by simp [rwD_len]; omega), ?_⟩⟩
            refine ⟨sm1, smL (by simp [rwD_len]; omega), _, k2 _ _ hp1, ?_⟩
            refine ⟨smL (by simp [rwD_len]; omega), fin M2 _ _ _ _ (k1.trans k2) ?_⟩
            rw [hl]
            simp [rwD, List.map_append]
      · rintro σ M1 ⟨S1, x, y, z, rfl, k1, hf1, h51, hp1⟩
        rw [show ss.take ((stDs ss).map W.d).length = ss by rw [stDs_map, List.length_map, List.length_map, List.take_length]] at hp1
        exact h p M1 k1 hp1
end Ms
set_option Elab.async false
set_option linter.all false
set_option maxRecDepth 100000
namespace Ms
open PySem PySem.Spec PyProof.Rows L2 Dl
/-! ### drawing of names, options, kinds, pieces -/
theorem d_L_pot {g : Gc} (T : Txt g) : Df g 1 "_law_pot" ["_law_script", "_law_k"] spPot := by
  refine df_of (k := 0) (i := i_L_pot) T.p_L_pot T.sy sc_L_pot ok_L_pot (fun _ _ _ _ _ _ us hl => match us, hl with | [_, _], _ => rfl) ?_ (fun Y ws M Q E F hE h => ?_)
  · exact spPot_len
  · obtain ⟨ns, k, rfl, h0, hk, h⟩ := h
    refine ⟨_, (ss_cons (s_set q_int (g_name F 2)) (ss_cons (s_if (t_cmp o_lt (q_var F 1) (q_callB F 0 c_len T.n_len (by decide +kernel) (a_cons (q_var F 0) a_nil))) (ss_one (s_set (q_bin o_mod (q_callB F 1 c_abs T.n_abs (by decide +kernel) (a_cons (q_ix (q_var F 0) (q_var F 1)) a_nil)) (q_bin o_pow (q_bin o_pow q_int q_int) q_int)) (g_name F 2))) ss_nil) (ss_one (s_ret (q_lstM (a_cons (q_bin o_mul (q_var F 2) (q_callT F 2 c_int T.n_int (by decide +kernel) (a_cons (q_cmp o_ge (q_var F 2) (q_bin o_pow q_int q_int)) a_nil))) (a_cons (q_bin o_mod (q_bin o_pow (q_bin o_add (q_bin o_add (q_bin o_mod (q_var F 2) q_int) (q_bin o_mul q_int (q_var F 1))) q_int) q_int) q_int) (a_cons q_int a_nil)))))))), ?_⟩
    have fin := fun (c : Int) (c0 : 0 ≤ c) (c1 : c.natAbs < 2 ^ 2000) (b : Bool) => pot_made (c := c) (k := k) (b := b) c0 c1 h0 hk
    refine ifD (fun hc => ?_) (fun hc => ?_)
    · have hl : k < ((ns.map PyData.int).length : Int) := hc
      obtain ⟨j, rfl⟩ := Int.eq_ofNat_of_zero_le h0
      have hj : j < ns.length := by simp at hl; omega
      obtain ⟨p1, p2, p3, p4, p5⟩ := pot_cell ns[j]
      obtain ⟨q1, q2, q3, q4, q5, q6, q7⟩ := fin _ p4 p5 (decide ((ns[j].natAbs : Int).fmod bigM ≥ (10 : Int) ^ (18 : Int).toNat))
      exact ⟨PyData.int ns[j], atI_nat (by simp [hj]), p1, p2, p3.1, q1, q2, q3.1, q4, q5, q6.1, small_of (show 3 ≤ 16777216 by decide), fun p np => h p _ np (q7 p M) oth_set⟩
    · obtain ⟨q1, q2, q3, q4, q5, q6, q7⟩ := fin 0 (by decide) (Nat.two_pow_pos _) (decide ((0 : Int) ≥ (10 : Int) ^ (18 : Int).toNat))
      exact ⟨q1, q2, q3.1, q4, q5, q6.1, small_of (show 3 ≤ 16777216 by decide), fun p np => h p _ np (q7 p M) oth_set⟩
theorem d_L_take {g : Gc} (T : Txt g) : Df g 1 "_law_take" ["_law_pot_here", "_law_many"] spTake := by
  refine df_of (k := 0) (i := i_L_take) T.p_L_take T.sy sc_L_take ok_L_take (fun _ _ _ _ _ _ us hl => match us, hl with | [_, _], _ => rfl) ?_ (fun Y ws M Q E F hE h => ?_)
  · exact spTake_len
  · obtain ⟨a, n, m, rfl, h1, hm, hn, hp, h⟩ := h
    refine ⟨_, (ss_cons (s_if (t_cmp o_gt (q_ix (q_var F 0) q_int) q_int) (ss_cons (s_set (q_bin o_mod (q_ix (q_var F 0) q_int) (q_var F 1)) (g_name F 2)) (ss_cons (s_set (q_bin o_fdiv (q_ix (q_var F 0) q_int) (q_var F 1)) (g_sub (q_var F 0) q_int)) (ss_one (s_ret (q_var F 2))))) ss_nil) (ss_cons (s_set (q_bin o_add (q_ix (q_var F 0) q_int) q_int) (g_sub (q_var F 0) q_int)) (ss_cons (s_set (q_bin o_mod (q_bin o_pow (q_bin o_add (q_ix (q_var F 0) q_int) (q_bin o_mul q_int (q_ix (q_var F 0) q_int))) q_int) q_int) (g_name F 3)) (ss_cons (s_set (q_bin o_mod (q_bin o_pow (q_bin o_add (q_bin o_add (q_var F 3) (q_bin o_mod (q_ix (q_var F 0) q_int) q_int)) (q_bin o_mul q_int (q_ix (q_var F 0) q_int))) q_int) q_int) (g_name F 4)) (ss_one (s_ret (q_bin o_mod (q_bin o_fdiv (q_var F 4) q_int) (q_var F 1)))))))), ?_⟩
    obtain ⟨x, y, z, hM, hx0, hx, hy0, hy, hz0, hz⟩ := hp
    refine ⟨_, hM, _, at0, ?_⟩
    refine ifD (fun hc => ?_) (fun hc => ?_)
    · obtain ⟨t1, t2, t3, t4, t5⟩ := take_full hc hx h1 hm
      exact ⟨_, hM, _, at0, t1.1, _, hM, _, at0, t1, _, hM, 0, rfl, h _ _ t2 t3 ⟨_, _, _, mset_same, t4, t5, hy0, hy, hz0, by omega⟩ oth_set⟩
    · have hM2 : mset M a (.lst [.d (.int x), .d (.int y), .d (.int (z + 1))]) a = _ := mset_same
      obtain ⟨t1, t2, t3, t4, t5, t6, t7, t8, t9, t10, t11⟩ := take_none (y := y) (z := z + 1) (m := m) hy0 hy (by omega) (by omega) h1 hm
      exact ⟨_, hM, _, at2, _, hM, 2, rfl, _, hM2, _, at1, _, hM2, _, at2, t1, t2, t3.1, _, hM2, _, at1, t4.1, _, hM2, _, at2, t5, t6, t7.1, t8, t9.1, h _ _ t10 t11 ⟨_, _, _, hM2, hx0, hx, hy0, hy, by omega, by omega⟩ oth_set⟩
/-- all but these two stay -/
def Oth2 (a b : Addr) (M M' : MH) : Prop := ∀ x o, x ≠ a → x ≠ b → M x = some o → M' x = some o
theorem Oth.two {a : Addr} {M M' : MH} (h : Oth a M M') (b : Addr) : Oth2 a b M M' := fun x o n _ e => h x o n e
theorem Oth2.trans {a b : Addr} {M M1 M2 : MH} (h : Oth2 a b M M1) (k : Oth2 a b M1 M2) : Oth2 a b M M2 := fun x o n m e => k x o n m (h x o n m e)
theorem oth2_set {a b : Addr} {M : MH} {o : O} : Oth2 a b M (mset M b o) := fun x u _ n e => by rw [mset_ne n]; exact e
theorem word_q : ∀ y ∈ wordsD, ∀ z, PyData.eqv y (.str z) = true → isNameS (z ++ "q") = true := by
  intro y hy z he
  simp only [wordsD, List.mem_cons, List.not_mem_nil, or_false] at hy
  rcases hy with rfl | rfl | rfl | rfl | rfl | rfl | rfl | rfl | rfl | rfl | rfl | rfl | rfl | rfl | rfl | rfl | rfl | rfl | rfl | rfl | rfl <;>
    (simp only [PyData.eqv, beq_iff_eq] at he; subst he; decide +kernel)
abbrev abcS : Str := "abcdefghijklmnopqrstuvwxyz"
theorem abc_at {r : Int} (h0 : 0 ≤ r) (h : r < 26) : atI abcS.cps.toList r = some (97 + r.toNat) := by
  have e : abcS.cps.toList = List.range' 97 26 := by decide +kernel
  rw [e]
  obtain ⟨n, rfl⟩ := Int.eq_ofNat_of_zero_le h0
  have hn : n < 26 := by omega
  have : ∀ k : Fin 26, atI (List.range' 97 26) ((k.val : Nat) : Int) = some (97 + k.val) := by decide +kernel
  exact this ⟨n, hn⟩
theorem abc_at' {v : Int} {k : Nat} (h : v = (k : Int)) (hk : k < 26) : atI abcS.cps.toList v = some (97 + k) := by
  rw [h]
  exact abc_at (by omega) (by omega)
theorem ix0 {x : W} {l : List W} : ixN (x :: l).length 0 = some 0 := by
  unfold ixN
  simp
theorem low_at {n : Nat} (h : n < 26) : isLow (97 + n) = true := by simp [isLow]; omega
theorem cps_app (x y : Str) : (x ++ y).cps.toList = x.cps.toList ++ y.cps.toList := by
  show (x.cps ++ y.cps).toList = _
  simp
/-- a name of this number -/
def NmOf (c : Nat) (z : Str) : Prop := isNameS z = true ∧ ∃ r : List Nat, z.cps.toList = (97 + c * 11 % 26) :: (97 + c / 26 * 7 % 26) :: r
theorem nm_ne {c c' : Nat} {z z' : Str} (h : NmOf c z) (h' : NmOf c' z') (l : c < 676) (l' : c' < 676) (n : c ≠ c') : z ≠ z' := by
  rintro rfl
  obtain ⟨_, r, e⟩ := h
  obtain ⟨_, r', e'⟩ := h'
  rw [e] at e'
  injection e' with e1 e2
  injection e2 with e2 _
  have a1 : c / 26 < 26 := by omega
  have a2 : c' / 26 < 26 := by omega
  omega
def spName : SpD := fun ws M Q _ => ∃ (a b : Addr) (n c : Nat) (ws' : List W), ws = [.ref a, .ref b] ∧ a ≠ b ∧ M b = some (.lst (.d (.int c) :: ws')) ∧ c ≤ 1000 ∧ ws'.length ≤ 10 ∧ n + 8 ≤ lots ∧ Pot a n M ∧
  ∀ z c' M', c < c' → c' ≤ c + 3 → NmOf c' z → Pot a (n + 8) M' → M' b = some (.lst (.d (.int c') :: ws')) → Oth2 a b M M' → Q (.d (.str z)) M'
theorem spName_len : ∀ ws M Q E, spName ws M Q E → ws.length = 2 := by rintro _ _ _ _ ⟨a, b, n, c, ws', rfl, _⟩; rfl
theorem d_L_name {g : Gc} (T : Txt g) : Df g 2 "_law_name" ["_law_pot_here", "_law_book"] spName := by
  refine df_of (k := 1) (i := i_L_name) T.p_L_name T.sy sc_L_name ok_L_name (fun _ _ _ _ _ _ us hl => match us, hl with | [_, _], _ => rfl) ?_ (fun Y ws M Q E F hE h => ?_)
  · exact spName_len
  · obtain ⟨a, b, n, c, ws', rfl, nab, hb, c1, lw, hn, hp, h⟩ := h
    refine ⟨_, (ss_cons (s_set q_str (g_name F 2)) (ss_cons (s_set (q_bin o_add (q_bin o_add (q_ix (q_var F 1) q_int) q_int) (q_call F 1 (d_L_take T) (a_cons (q_var F 0) (a_cons q_int a_nil)))) (g_sub (q_var F 1) q_int)) (ss_cons (s_set (q_bin o_add (q_ix (q_var F 2) (q_bin o_mod (q_bin o_mul (q_ix (q_var F 1) q_int) q_int) q_int)) (q_ix (q_var F 2) (q_bin o_mod (q_bin o_mul (q_bin o_fdiv (q_ix (q_var F 1) q_int) q_int) q_int) q_int))) (g_name F 3)) (ss_cons (s_for F (i_rng1 F 0 T.n_range (a_cons (q_call F 1 (d_L_take T) (a_cons (q_var F 0) (a_cons q_int a_nil))) a_nil)) (g_name F 4) (ss_one (s_set (q_bin o_add (q_var F 3) (q_ix (q_var F 2) (q_call F 1 (d_L_take T) (a_cons (q_var F 0) (a_cons q_int a_nil))))) (g_name F 3)))) (ss_cons (s_set (q_lst (a_cons q_str (a_cons q_str (a_cons q_str (a_cons q_str (a_cons q_str (a_cons q_str (a_cons q_str (a_cons q_str (a_cons q_str (a_cons q_str (a_cons q_str (a_cons q_str (a_cons q_str (a_cons q_str a_nil))))))))))))))) (g_name F 5)) (ss_cons (s_if (t_cmp (o_in F) (q_var F 3) (q_bin o_add (q_var F 5) (q_lst (a_cons q_str (a_cons q_str (a_cons q_str (a_cons q_str (a_cons q_str (a_cons q_str (a_cons q_str a_nil)))))))))) (ss_one (s_set (q_bin o_add (q_var F 3) q_str) (g_name F 3))) ss_nil) (ss_one (s_ret (q_var F 3))))))))), ?_⟩
    refine ⟨_, hb, _, at0, ?_⟩
    refine ⟨a, n, 3, rfl, by decide, by decide, by omega, hp, fun r1 M1 a1 b1 p1 o1 => ?_⟩
    obtain ⟨c', hc'⟩ : ∃ c' : Nat, (c' : Int) = (c : Int) + 1 + r1 := ⟨((c : Int) + 1 + r1).toNat, by omega⟩
    have h1 : M1 b = some (.lst (.d (.int c) :: ws')) := o1 b _ nab.symm hb
    refine ⟨_, h1, 0, ix0, ?_⟩
    obtain ⟨M2, hM2⟩ : ∃ M2, M2 = mset M1 b (.lst (.d (.int c') :: ws')) := ⟨_, rfl⟩
    have e2 : mset M1 b (.lst ((W.d (.int (c : Int)) :: ws').set 0 (.d (.int ((c : Int) + 1 + r1))))) = M2 := by rw [hM2, hc']; rfl
    rw [e2]
    have h2 : M2 b = some (.lst (.d (.int c') :: ws')) := by rw [hM2, mset_same]
    have p2 : Pot a (n + 1) M2 := by rw [hM2]; exact p1.of (mset_ne nab)
    have o2 : Oth2 a b M M2 := by rw [hM2]; exact (Oth.two o1 b).trans oth2_set
    have l9 : c' ≤ 1003 := by omega
    have ea : ((c' : Int) * 11).fmod 26 = ((c' * 11 % 26 : Nat) : Int) := by rw [fmod_pos (by decide)]; omega
    have eb : ((c' : Int).fdiv 26 * 7).fmod 26 = ((c' / 26 * 7 % 26 : Nat) : Int) := by rw [fdiv_pos (by decide), fmod_pos (by decide)]; omega
    refine ⟨_, h2, _, at0, mulOk_of (n := 20) (m := 20) (by decide) (by decide) (by rw [show (2 : Nat) ^ 20 = 1048576 by decide]; omega) (by decide) (by decide), (show (26 : Int) ≠ 0 by decide), small_of (show 26 ≤ 16777216 by decide), _, abc_at' ea (by omega), ?_⟩
    refine ⟨_, h2, _, at0, divOk_of (n := 20) (by decide) (by decide) (by decide) (by decide), mulOk_of (n := 20) (m := 20) (by decide) (by decide) (by rw [show (2 : Nat) ^ 20 = 1048576 by decide, fdiv_pos (by decide)]; omega) (by decide) (by decide), (show (26 : Int) ≠ 0 by decide), small_of (show 26 ≤ 16777216 by decide), _, abc_at' eb (by omega), sm2, ?_⟩
    refine ⟨a, _, 7, rfl, by decide, by decide, by omega, p2, fun r2 M3 a3 b3 p3 o3 => ?_⟩
    refine ⟨⟨by omega, by omega⟩, fun j σ M' => ∃ z x, σ = [some (.ref a), some (.ref b), some (.d (.str abcS)), some (.d (.str z)), x, none] ∧ z.length = 2 + j ∧ j ≤ 6 ∧ (∃ r, z.cps.toList = (97 + c' * 11 % 26) :: (97 + c' / 26 * 7 % 26) :: r ∧ r.all isLow = true) ∧ Pot a (n + 2 + j) M' ∧ M' b = some (.lst (.d (.int c') :: ws')) ∧ Oth2 a b M M', ⟨_, _, rfl, rfl, by decide, ⟨[], rfl, rfl⟩, p3, o3 b _ nab.symm h2, o2.trans (Oth.two o3 b)⟩, fun _ _ _ _ => trivial, ?_, ?_⟩
    · rintro j w σ M4 hj ⟨z, x, rfl, hl, hj8, ⟨r, hz, hr⟩, p4, h4, o4⟩
      obtain ⟨hj', rfl⟩ := rng_get hj
      have j8 : j < 6 := by omega
      refine ⟨a, _, 26, rfl, by decide, by decide, by omega, p4, fun r3 M5 a5 b5 p5 o5 => ?_⟩
      refine ⟨small_of (show 26 ≤ 16777216 by decide), _, abc_at a5 b5, small_of (by rw [hl]; show 2 + j + 1 ≤ 16777216; omega), _, _, rfl, ?_, by omega, ⟨r ++ [97 + r3.toNat], ?_, ?_⟩, p5, o5 b _ nab.symm h4, o4.trans (Oth.two o5 b)⟩
      · show (z ++ ⟨#[97 + r3.toNat]⟩ : Str).length = 2 + (j + 1)
        rw [len_app, hl]
        rfl
      · rw [cps_app, hz]
        rfl
      · rw [List.all_append, hr]
        simp [low_at (show r3.toNat < 26 by omega)]
    · rintro σ M4 ⟨z, x, rfl, hl, hj8, ⟨r, hz, hr⟩, p4, h4, o4⟩
      rw [rng_len] at hl p4
      have l1 : 1 ≤ z.length := by omega
      have l8 : z.length ≤ 8 := by omega
      have all : z.cps.toList.all isLow = true := by
        rw [hz, List.all_cons, List.all_cons, hr, low_at (Nat.mod_lt _ (by decide)), low_at (Nat.mod_lt _ (by decide))]
        rfl
      have lay : (PyData.str z).canLay0 = true := by
        simp only [PyData.canLay0, PyData.strOk, Array.all_eq_true]
        intro i hi
        have := List.all_eq_true.mp all z.cps[i] (by simp)
        simp only [isLow, Bool.and_eq_true, decide_eq_true_eq] at this
        simp
        omega
      have p5 : Pot a (n + 8) M4 := p4.mono (by omega)
      refine ⟨sm14, sm7, small_of (show 14 + 7 ≤ 16777216 by decide), in_words lay, ?_⟩
      cases hw : inD (.str z) wordsD with
      | true =>
        refine bqc true (by first | exact hw | rfl) (iteT ?_)
        refine ⟨small_of (by show z.length + 1 ≤ _; omega), ?_⟩
        unfold inD at hw
        obtain ⟨y, hy, e⟩ := List.any_eq_true.mp hw
        refine h _ c' _ (by omega) (by omega) ⟨word_q y hy z e, ?_⟩ p5 h4 o4
        exact ⟨r ++ ("q" : Str).cps.toList, by rw [cps_app, hz]; rfl⟩
      | false =>
        refine bqc false (by first | exact hw | rfl) (iteF ?_)
        exact h z c' _ (by omega) (by omega) ⟨by simp [isNameS, hw, all, l1, l8], r, hz⟩ p5 h4 o4
/-- options drawn: at most so many -/
def spOpt : SpD := fun ws M Q _ => ∃ (a : Addr) (n : Nat) (m : Int), ws = [.ref a, .d (.int m)] ∧ 1 ≤ m ∧ m ≤ 6 ∧ n + 7 ≤ lots ∧ Pot a n M ∧ ∀ zs M', Opts zs → Pot a (n + 7) M' → Oth a M M' → Q (.d (.tuple (zs.map PyData.str))) M'
theorem spOpt_len : ∀ ws M Q E, spOpt ws M Q E → ws.length = 2 := by rintro _ _ _ _ ⟨a, n, m, rfl, _⟩; rfl
def tenS : List Str := ["yes", "no", "a", "b", "zz", "maybe", "kqxjwvu", "often", "never", "c"]
theorem ten_ok : tenS.Nodup ∧ ∀ z ∈ tenS, isNameS z = true := by
  refine ⟨by decide +kernel, ?_⟩
  intro z hz
  simp only [tenS, List.mem_cons, List.not_mem_nil, or_false] at hz
  rcases hz with rfl | rfl | rfl | rfl | rfl | rfl | rfl | rfl | rfl | rfl <;> decide +kernel
theorem erase_map {α β : Type} (f : α → β) : ∀ (l : List α) (k : Nat), (l.map f).eraseIdx k = (l.eraseIdx k).map f
  | [], _ => by simp
  | x :: l, 0 => rfl
  | x :: l, k + 1 => by simp [erase_map f l k]
theorem perm_erase1 : ∀ {rs : List Str} {m : Nat} {z : Str}, rs[m]? = some z → (z :: rs.eraseIdx m).Perm rs
  | [], _, _, h => by simp at h
  | x :: r, 0, z, h => by cases h; exact List.Perm.refl _
  | x :: r, m + 1, z, h => (List.Perm.swap x z _).trans ((perm_erase1 (rs := r) (m := m) (by simpa using h)).cons x)
/-- what is there of a list, and what is taken -/
theorem perm_erase {zs rs : List Str} {m : Nat} {z : Str} (h : rs[m]? = some z) : (zs ++ [z] ++ rs.eraseIdx m).Perm (zs ++ rs) := by
  rw [List.append_assoc]
  refine List.Perm.append_left zs ?_
  rw [List.singleton_append]
  exact perm_erase1 h
theorem d_L_options {g : Gc} (T : Txt g) : Df g 2 "_law_options" ["_law_pot_here", "_law_most"] spOpt := by
  refine df_of (k := 1) (i := i_L_options) T.p_L_options T.sy sc_L_options ok_L_options (fun _ _ _ _ _ _ us hl => match us, hl with | [_, _], _ => rfl) ?_ (fun Y ws M Q E F hE h => ?_)
  · exact spOpt_len
  · obtain ⟨a, n, m, rfl, m1, m6, hn, hp, h⟩ := h
    refine ⟨_, (ss_cons (s_set (q_lstM (a_cons q_str (a_cons q_str (a_cons q_str (a_cons q_str (a_cons q_str (a_cons q_str (a_cons q_str (a_cons q_str (a_cons q_str (a_cons q_str a_nil))))))))))) (g_cell F 2)) (ss_one (s_ret (q_callT F 0 c_tup T.n_tuple (by decide +kernel) (a_cons (q_lc (own := [("_law_k", 3)]) F ⟨_, ["_law_pot_here", "_law_most", "_law_some", "_law_k"], [3, 2, 0], [3], [], ["_law_take", "len"], false, true⟩ (.one 3) ⟨rfl, rfl, ⟨rfl, by decide +kernel, by decide +kernel, by decide +kernel, by decide +kernel⟩, by decide +kernel, by decide +kernel, rfl, rfl⟩ (by decide) (i_rng1 F 2 T.n_range (a_cons (q_bin o_add q_int (q_call F 1 (d_L_take T) (a_cons (q_var F 0) (a_cons (q_var F 1) a_nil)))) a_nil)) (fun _ F hw => ⟨(pgN F 3), ts_nil, (q_met m_popAt (q_var F 2) (a_cons (q_callW hw F 0 (d_L_take T) (a_cons (q_var F 0) (a_cons (q_callB F 1 c_len T.n_len (by decide +kernel) (a_cons (q_var F 2) a_nil)) a_nil))) a_nil))⟩)) a_nil))))), ?_⟩
    refine ⟨sm10, fun f nf => ?_⟩
    have fa : a ≠ f := hp.ne nf
    have hp0 : Pot a n (mset M f (.lst ((tenS.map PyData.str).map W.d))) := hp.of (mset_ne fa)
    have o0 : Oth a M (mset M f (.lst ((tenS.map PyData.str).map W.d))) := fun b o nb e => by rw [mset_ne (by rintro rfl; rw [nf] at e; cases e)]; exact e
    refine ⟨a, n, m, rfl, m1, by omega, by omega, hp0, fun r M1 a1 b1 p1 o1 => ?_⟩
    have f1 := o1 f _ fa.symm mset_same
    have oD : ∀ {D : Addr} {o : O} {M2 : MH}, M D = none → Oth a M M2 → Oth a M (mset M2 D o) := fun nD h b u nb e => by
      rw [mset_ne (by rintro rfl; rw [nD] at e; cases e)]
      exact h b u nb e
    refine ⟨⟨by omega, by omega⟩, fun D nD => ?_⟩
    have aD : a ≠ D := p1.ne nD
    have fD : f ≠ D := by rintro rfl; rw [f1] at nD; cases nD
    have nDM : M D = none := by
      cases e : M D with
      | none => rfl
      | some o => have := (o0.trans o1) D o aD.symm e; rw [nD] at this; cases this
    refine ⟨fun j acc M2 => ∃ zs rs : List Str, acc = (zs.map PyData.str).map W.d ∧ M2 D = some (.lst acc) ∧ M2 f = some (.lst ((rs.map PyData.str).map W.d)) ∧ zs.length = j ∧ rs.length + j = 10 ∧ (zs ++ rs).Perm tenS ∧ Pot a (n + 1 + j) M2 ∧ Oth a M M2, ⟨[], tenS, rfl, mset_same, by rw [mset_ne fD]; exact f1, rfl, rfl, List.Perm.refl _, p1.of (mset_ne aD), oD nDM (o0.trans o1)⟩, fun j acc M2 ⟨zs, rs, _, h, _⟩ => ⟨trivial, h⟩, ?_, ?_⟩
    · rintro j w acc M2 hj ⟨zs, rs, rfl, hD, hf, hl, hr, hpm, hp2, ho⟩
      obtain ⟨hj', rfl⟩ := rng_get hj
      dsimp only [tgQ, tAll]
      refine iteT ?_
      refine ⟨⟨_, hf⟩, _, hf, ?_⟩
      have ln : ((rs.map PyData.str).map W.d).length = rs.length := by simp
      rw [ln]
      refine ⟨a, _, (rs.length : Int), rfl, by omega, by omega, by omega, hp2, fun q M3 q0 q1 p3 o3 => ?_⟩
      obtain ⟨k, rfl⟩ := Int.eq_ofNat_of_zero_le q0
      have hk : k < rs.length := by omega
      have f3 := o3 f _ fa.symm hf
      have D3 := o3 D _ aD.symm hD
      refine ⟨_, f3, by omega, by omega, k, .d (.str rs[k]), ?_, ?_, ?_⟩
      · unfold seqIndex?
        rw [ln]
        simp
        omega
      · rw [List.getElem?_map, List.getElem?_map, List.getElem?_eq_getElem hk]
        rfl
      · have e : ((rs.map PyData.str).map W.d).eraseIdx k = ((rs.eraseIdx k).map PyData.str).map W.d := by rw [erase_map, erase_map]
        rw [e]
        refine ⟨by rw [mset_ne fD.symm]; exact D3, by rw [List.length_map, List.length_map, hl, sizeLine_eq]; omega, zs ++ [rs[k]], rs.eraseIdx k, by simp, mset_same, by rw [mset_ne fD, mset_same], by simp [hl], ?_, ?_, ?_, ?_⟩
        · rw [List.length_eraseIdx_of_lt hk]; omega
        · exact (perm_erase (List.getElem?_eq_getElem hk)).trans hpm
        · exact (p3.of (mset_ne fa)).of (mset_ne aD)
        · refine oD nDM ?_
          intro b u nb e
          have := o3 b u nb (ho b u nb e)
          rw [mset_ne (by rintro rfl; rw [nf] at e; cases e)]
          exact this
    · rintro acc M2 ⟨zs, rs, rfl, hD, hf, hl, hr, hpm, hp2, ho⟩
      rw [rng_len] at hl hp2
      refine dataQ_of ?_
      have nd : (zs ++ rs).Nodup := hpm.symm.nodup ten_ok.1
      refine h zs _ ⟨by omega, by omega, (List.nodup_append.mp nd).1, fun z hz => ten_ok.2 z (hpm.mem_iff.mp (List.mem_append_left _ hz))⟩ ((hp2.mono (by omega)).of (mdel_ne aD)) ?_
      intro b u nb e
      rw [mdel_ne (by rintro rfl; rw [nDM] at e; cases e)]
      exact ho b u nb e
end Ms
set_option Elab.async false
set_option linter.all false
set_option maxRecDepth 100000
namespace Ms
open PySem PySem.Spec PyProof.Rows L2 Dl
/-! ### drawing of kinds, pieces, conditions -/
abbrev Ask := Str × Kd
def askD (p : Ask) : PyData := .tuple [.str p.1, kdD p.2]
def asksL (A : List Ask) : List PyData := A.map askD
def asksD (A : List Ask) : PyData := .list (asksL A)
abbrev Rnd := Str × List Ask
def rndD (q : Rnd) : PyData := .tuple [.str q.1, asksD q.2]
def rndsD (R : List Rnd) : PyData := .list (R.map rndD)
def AkOk (A : List Ask) : Prop := ∀ p ∈ A, isNameS p.1 = true ∧ KdOk p.2
def RdOk (R : List Rnd) : Prop := R.length ≤ 200 ∧ ∀ q ∈ R, isNameS q.1 = true ∧ AkOk q.2 ∧ q.2.length ≤ 500
theorem ask_lay {p : Ask} (h : isNameS p.1 = true ∧ KdOk p.2) : (askD p).canLay0 = true := by
  simp only [askD, PyData.canLay0, PyData.canLayAll0, Bool.and_eq_true]
  exact ⟨name_sok h.1, (kd_x h.2).l, trivial⟩
theorem all_lay {α : Type} {f : α → PyData} : ∀ {l : List α}, (∀ x ∈ l, (f x).canLay0 = true) → PyData.canLayAll0 (l.map f) = true
  | [], _ => rfl
  | x :: l, h => by
    rw [List.map_cons, PyData.canLayAll0, h x List.mem_cons_self, all_lay fun y hy => h y (List.mem_cons_of_mem _ hy)]
    rfl
theorem asks_lay {A : List Ask} (h : AkOk A) : (asksD A).canLay0 = true := all_lay fun p hp => ask_lay (h p hp)
theorem rnd_lay {q : Rnd} (h : isNameS q.1 = true ∧ AkOk q.2) : (rndD q).canLay0 = true := by
  simp only [rndD, PyData.canLay0, PyData.canLayAll0, Bool.and_eq_true]
  exact ⟨name_sok h.1, asks_lay h.2, trivial⟩
theorem ne_nil {xs : List PyData} (h : PyData.canLayAll0 xs = true) : neOk (.list xs) (.list []) = true ∧ eqOk (.list xs) (.list []) = true ∧ PyData.eqv (.list xs) (.list []) = xs.isEmpty := by
  have d0 : (PyData.list []).depth = 1 := by decide
  have l0 : (PyData.list []).canLay0 = true := by decide
  have l1 : (PyData.list xs).canLay0 = true := h
  refine ⟨?_, ?_, by cases xs <;> simp [PyData.eqv, PyData.eqvAll]⟩
  · unfold neOk
    rw [l1, l0, d0]
    have : min (PyData.list xs).depth 1 ≤ 64 := by omega
    simp [this]
  · unfold eqOk
    rw [l1, l0, d0]
    have : min (PyData.list xs).depth 1 ≤ 64 := by omega
    simp [this]
theorem asks_nil {A : List Ask} (h : AkOk A) : neOk (asksD A) (.list []) = true ∧ eqOk (asksD A) (.list []) = true ∧ PyData.eqv (asksD A) (.list []) = A.isEmpty := by
  obtain ⟨a, b, c⟩ := ne_nil (xs := asksL A) (asks_lay h)
  refine ⟨a, b, ?_⟩
  show PyData.eqv (.list (asksL A)) (.list []) = _
  rw [c]
  cases A <;> rfl
theorem pw106 : powOk 10 6 := powOk_of (n := 4) (by decide) (by decide) (by decide)
theorem pwE : (10 : Int) ^ (6 : Int).toNat = 1000000 := by decide
theorem pick_get {α : Type} {f : α → PyData} {l : List α} {r : Int} (h0 : 0 ≤ r) (h1 : r < l.length) : ∃ x ∈ l, atI (l.map f) r = some (f x) := by
  obtain ⟨d, e, hd⟩ := atI_mem (xs := l.map f) h0 (by rw [List.length_map]; exact h1)
  obtain ⟨x, hx, rfl⟩ := List.mem_map.mp hd
  exact ⟨x, hx, e⟩
/-- a piece drawn of a question -/
def spDp : SpD := fun ws M Q _ => ∃ (a : Addr) (n : Nat) (p : Ask), ws = [.ref a, .d (askD p)] ∧ isNameS p.1 = true ∧ KdOk p.2 ∧ n + 5 ≤ lots ∧ Pot a n M ∧
  ∀ w y M', PcFit w y p.2 → Pot a (n + 5) M' → Oth a M M' → Q (.d (cnD (.pc w p.1 y))) M'
theorem spDp_len : ∀ ws M Q E, spDp ws M Q E → ws.length = 2 := by rintro _ _ _ _ ⟨a, n, p, rfl, _⟩; rfl
theorem d_L_piece {g : Gc} (T : Txt g) : Df g 2 "_law_piece" ["_law_pot_here", "_law_ask"] spDp := by
  refine df_of (k := 1) (i := i_L_piece) T.p_L_piece T.sy sc_L_piece ok_L_piece (fun _ _ _ _ _ _ us hl => match us, hl with | [_, _], _ => rfl) ?_ (fun Y ws M Q E F hE h => ?_)
  · exact spDp_len
  · obtain ⟨a, n, ⟨nm, k⟩, rfl, hnm, hk, hn, hp, h⟩ := h
    refine ⟨_, (ss_cons (s_par F 2 3 (a_cons (q_ix (q_var F 1) q_int) (a_cons (q_ix (q_var F 1) q_int) a_nil))) (ss_cons (s_if (t_cmp (o_eq F) (q_ix (q_var F 3) q_int) q_str) (ss_one (s_ret (q_tup (a_cons q_str (a_cons (q_var F 2) (a_cons (q_ix (q_ix (q_var F 3) q_int) (q_call F 1 (d_L_take T) (a_cons (q_var F 0) (a_cons (q_callB F 3 c_len T.n_len (by decide +kernel) (a_cons (q_ix (q_var F 3) q_int) a_nil)) a_nil)))) a_nil)))))) ss_nil) (ss_cons (s_if (t_cmp (o_eq F) (q_ix (q_var F 3) q_int) q_str) (ss_one (s_ret (q_tup (a_cons q_str (a_cons (q_var F 2) (a_cons (q_ix (q_ix (q_var F 3) q_int) (q_call F 1 (d_L_take T) (a_cons (q_var F 0) (a_cons (q_callB F 3 c_len T.n_len (by decide +kernel) (a_cons (q_ix (q_var F 3) q_int) a_nil)) a_nil)))) a_nil)))))) ss_nil) (ss_cons (s_set (q_lst (a_cons (q_ix (q_var F 3) q_int) (a_cons (q_ix (q_var F 3) q_int) (a_cons (q_bin o_add (q_ix (q_var F 3) q_int) (q_call F 1 (d_L_take T) (a_cons (q_var F 0) (a_cons (q_bin o_add (q_bin o_sub (q_ix (q_var F 3) q_int) (q_ix (q_var F 3) q_int)) q_int) a_nil)))) (a_cons (q_call F 1 (d_L_take T) (a_cons (q_var F 0) (a_cons (q_bin o_add (q_bin o_pow q_int q_int) q_int) a_nil))) a_nil))))) (g_name F 4)) (ss_cons (s_set (q_callB F 0 (c_min F) T.n_min (by decide +kernel) (a_cons (q_bin o_pow q_int q_int) (a_cons (q_callB F 2 (c_max F) T.n_max (by decide +kernel) (a_cons q_int (a_cons (q_bin o_sub (q_bin o_add (q_ix (q_var F 4) (q_call F 1 (d_L_take T) (a_cons (q_var F 0) (a_cons q_int a_nil)))) (q_call F 1 (d_L_take T) (a_cons (q_var F 0) (a_cons q_int a_nil)))) q_int) a_nil))) a_nil))) (g_name F 5)) (ss_one (s_ret (q_tup (a_cons (q_ix (q_lst (a_cons q_str (a_cons q_str a_nil))) (q_call F 1 (d_L_take T) (a_cons (q_var F 0) (a_cons q_int a_nil)))) (a_cons (q_var F 2) (a_cons (q_var F 5) a_nil))))))))))), ?_⟩
    refine ⟨_, at0, _, at1, ?_⟩
    cases k with
    | pick zs =>
      have hb := hk.b
      have ha := hk.a
      have ln : (zs.map PyData.str).length = zs.length := by simp
      refine ⟨_, at0, rfl, bqc true (by decide +kernel) (iteT ?_)⟩
      refine ⟨_, at1, _, at1, ?_⟩
      refine ⟨a, n, ((zs.map PyData.str).length : Int), rfl, by rw [ln]; omega, by rw [ln]; exact nat_lt_of (n := 20) (by rw [show (2 : Nat) ^ 20 = 1048576 by decide]; omega) (by decide), by omega, hp, fun r M1 a1 b1 p1 o1 => ?_⟩
      rw [ln] at b1
      obtain ⟨z, hz, e⟩ := pick_get (f := PyData.str) a1 b1
      exact ⟨_, e, sm3, h "is" (.str z) M1 ⟨rfl, z, hz, rfl⟩ (p1.mono (by omega)) o1⟩
    | some zs =>
      have hb := hk.b
      have ha := hk.a
      have ln : (zs.map PyData.str).length = zs.length := by simp
      refine ⟨_, at0, rfl, bqc false (by decide +kernel) (iteF ?_)⟩
      refine ⟨_, at0, rfl, bqc true (by decide +kernel) (iteT ?_)⟩
      refine ⟨_, at1, _, at1, ?_⟩
      refine ⟨a, n, ((zs.map PyData.str).length : Int), rfl, by rw [ln]; omega, by rw [ln]; exact nat_lt_of (n := 20) (by rw [show (2 : Nat) ^ 20 = 1048576 by decide]; omega) (by decide), by omega, hp, fun r M1 a1 b1 p1 o1 => ?_⟩
      rw [ln] at b1
      obtain ⟨z, hz, e⟩ := pick_get (f := PyData.str) a1 b1
      exact ⟨_, e, sm3, h "has" (.str z) M1 ⟨rfl, z, hz, rfl⟩ (p1.mono (by omega)) o1⟩
    | count x y =>
      obtain ⟨h0, h1, h2⟩ := hk
      refine ⟨_, at0, rfl, bqc false (by decide +kernel) (iteF ?_)⟩
      refine ⟨_, at0, rfl, bqc false (by decide +kernel) (iteF ?_)⟩
      refine ⟨_, at1, _, at2, _, at1, _, at2, _, at1, a, n, y - x + 1, rfl, by omega, nat_lt_of (n := 20) (by rw [show (2 : Nat) ^ 20 = 1048576 by decide]; omega) (by decide), by omega, hp, fun r1 M1 a1 b1 p1 o1 => ?_⟩
      refine ⟨pw106, ?_⟩
      refine ⟨a, _, _, rfl, by rw [pwE]; decide, by rw [pwE]; exact nat_lt_of (n := 20) (by decide) (by decide), by omega, p1, fun r2 M2 a2 b2 p2 o2 => ⟨sm4, ?_⟩⟩
      refine ⟨pw106, ?_⟩
      refine ⟨a, _, 4, rfl, by decide, by decide, by omega, p2, fun r3 M3 a3 b3 p3 o3 => ?_⟩
      obtain ⟨v, hv⟩ : ∃ v : Int, atI [PyData.int x, .int y, .int (x + r1), .int r2] r3 = some (.int v) := by
        obtain ⟨d, hd, hm⟩ := atI_mem (xs := [PyData.int x, .int y, .int (x + r1), .int r2]) a3 b3
        simp only [List.mem_cons, List.not_mem_nil, or_false] at hm
        rcases hm with rfl | rfl | rfl | rfl <;> exact ⟨_, hd⟩
      refine ⟨_, hv, ?_⟩
      refine ⟨a, _, 3, rfl, by decide, by decide, by omega, p3, fun r4 M4 a4 b4 p4 o4 => ?_⟩
      refine ⟨sm2, a, _, 2, rfl, by decide, by decide, by omega, p4, fun r5 M5 a5 b5 p5 o5 => ?_⟩
      obtain ⟨w, hw, e⟩ := pick_get (f := PyData.str) (l := [("from" : Str), "to"]) a5 b5
      refine ⟨_, e, sm3, h w (.int (min ((10 : Int) ^ (6 : Int).toNat) (max 0 (v + r4 - 1)))) M5 ⟨by simpa using hw, _, rfl, by rw [pwE]; omega, by rw [pwE]; omega⟩ (p5.mono (by omega)) ((((o1.trans o2).trans o3).trans o4).trans o5)⟩
/-- a kind drawn; small: at most 4 things -/
def spDk : SpD := fun ws M Q _ => ∃ (a : Addr) (n : Nat) (s : Bool), ws = [.ref a, .d (.bool s)] ∧ n + 12 ≤ lots ∧ Pot a n M ∧
  ∀ k M', KdOk k → Pot a (n + 12) M' → Oth a M M' → Q (.d (kdD k)) M'
theorem spDk_len : ∀ ws M Q E, spDk ws M Q E → ws.length = 2 := by rintro _ _ _ _ ⟨a, n, s, rfl, _⟩; rfl
theorem d_L_kind {g : Gc} (T : Txt g) : Df g 3 "_law_kind" ["_law_pot_here", "_law_small"] spDk := by
  refine df_of (k := 2) (i := i_L_kind) T.p_L_kind T.sy sc_L_kind ok_L_kind (fun _ _ _ _ _ _ us hl => match us, hl with | [_, _], _ => rfl) ?_ (fun Y ws M Q E F hE h => ?_)
  · exact spDk_len
  · obtain ⟨a, n, s, rfl, hn, hp, h⟩ := h
    refine ⟨_, (ss_cons (s_set (q_call F 0 (d_L_take T) (a_cons (q_var F 0) (a_cons q_int a_nil))) (g_name F 2)) (ss_cons (s_set (q_call F 0 (d_L_take T) (a_cons (q_var F 0) (a_cons q_int a_nil))) (g_name F 3)) (ss_cons (s_if (QW.pt (w_or (t_val (q_var F 1)) (w_or1 (t_cmp (o_eq F) (q_var F 2) q_int)))) (ss_one (s_ret (q_tup (a_cons q_str (a_cons (q_var F 3) (a_cons (q_bin o_add (q_var F 3) (q_call F 0 (d_L_take T) (a_cons (q_var F 0) (a_cons (q_bin o_sub q_int (q_var F 3)) a_nil)))) a_nil)))))) ss_nil) (ss_cons (s_if (t_cmp o_lt (q_var F 2) q_int) (ss_one (s_ret (q_tup (a_cons q_str (a_cons (q_call F 1 (d_L_options T) (a_cons (q_var F 0) (a_cons q_int a_nil))) a_nil))))) ss_nil) (ss_cons (s_if (t_cmp o_lt (q_var F 2) q_int) (ss_one (s_ret (q_tup (a_cons q_str (a_cons (q_call F 1 (d_L_options T) (a_cons (q_var F 0) (a_cons q_int a_nil))) a_nil))))) ss_nil) (ss_cons (s_set (q_ix (q_lst (a_cons (q_call F 0 (d_L_take T) (a_cons (q_var F 0) (a_cons q_int a_nil))) (a_cons (q_call F 0 (d_L_take T) (a_cons (q_var F 0) (a_cons (q_bin o_add (q_bin o_pow q_int q_int) q_int) a_nil))) a_nil))) (q_call F 0 (d_L_take T) (a_cons (q_var F 0) (a_cons q_int a_nil)))) (g_name F 3)) (ss_one (s_ret (q_tup (a_cons q_str (a_cons (q_var F 3) (a_cons (q_ix (q_lst (a_cons (q_var F 3) (a_cons (q_callB F 2 (c_min F) T.n_min (by decide +kernel) (a_cons (q_bin o_pow q_int q_int) (a_cons (q_bin o_add (q_var F 3) (q_call F 0 (d_L_take T) (a_cons (q_var F 0) (a_cons q_int a_nil)))) a_nil))) (a_cons (q_bin o_pow q_int q_int) a_nil)))) (q_call F 0 (d_L_take T) (a_cons (q_var F 0) (a_cons q_int a_nil)))) a_nil)))))))))))), ?_⟩
    refine ⟨a, n, 6, rfl, by decide, by decide, by omega, hp, fun way M1 a1 b1 p1 o1 => ?_⟩
    refine ⟨a, _, 3, rfl, by decide, by decide, by omega, p1, fun low M2 a2 b2 p2 o2 => ?_⟩
    have small : ∀ (r : Int), 0 ≤ r → r < 5 - low → KdOk (.count low (low + r)) := fun r r0 r1 => ⟨a2, by omega, by omega⟩
    cases s with
    | true =>
      refine ⟨a, _, 5 - low, rfl, by omega, nat_lt_of (n := 20) (by rw [show (2 : Nat) ^ 20 = 1048576 by decide]; omega) (by decide), by omega, p2, fun r M3 a3 b3 p3 o3 => ⟨sm3, ?_⟩⟩
      exact h (.count low (low + r)) M3 (small r a3 b3) (p3.mono (by omega)) ((o1.trans o2).trans o3)
    | false =>
      refine ⟨rfl, ?_⟩
      cases e : PyData.eqv (.int way) (.int 0) with
      | true =>
        refine bqc true (by first | exact e | rfl) ?_
        refine iteT ?_
        refine ⟨a, _, 5 - low, rfl, by omega, nat_lt_of (n := 20) (by rw [show (2 : Nat) ^ 20 = 1048576 by decide]; omega) (by decide), by omega, p2, fun r M3 a3 b3 p3 o3 => ⟨sm3, ?_⟩⟩
        exact h (.count low (low + r)) M3 (small r a3 b3) (p3.mono (by omega)) ((o1.trans o2).trans o3)
      | false =>
        refine bqc false (by first | exact e | rfl) ?_
        refine iteF ?_
        refine ifD (fun _ => ?_) (fun _ => ?_)
        · refine ⟨a, _, 4, rfl, by decide, by decide, by omega, p2, fun zs M3 hz p3 o3 => ⟨sm2, ?_⟩⟩
          exact h (.pick zs) M3 hz (p3.mono (by omega)) ((o1.trans o2).trans o3)
        refine ifD (fun _ => ?_) (fun _ => ?_)
        · refine ⟨a, _, 3, rfl, by decide, by decide, by omega, p2, fun zs M3 hz p3 o3 => ⟨sm2, ?_⟩⟩
          exact h (.some zs) M3 hz (p3.mono (by omega)) ((o1.trans o2).trans o3)
        refine ⟨a, _, 30, rfl, by decide, by decide, by omega, p2, fun r3 M3 a3 b3 p3 o3 => ?_⟩
        refine ⟨pw106, a, _, _, rfl, by rw [pwE]; decide, by rw [pwE]; exact nat_lt_of (n := 20) (by decide) (by decide), by omega, p3, fun r4 M4 a4 b4 p4 o4 => ⟨sm2, ?_⟩⟩
        rw [pwE] at b4
        refine ⟨a, _, 2, rfl, by decide, by decide, by omega, p4, fun r5 M5 a5 b5 p5 o5 => ?_⟩
        obtain ⟨v, v0, v1, hv⟩ : ∃ v : Int, 0 ≤ v ∧ v ≤ 1000000 ∧ atI [PyData.int r3, .int r4] r5 = some (.int v) := by
          obtain ⟨d, hd, hm⟩ := atI_mem (xs := [PyData.int r3, .int r4]) a5 b5
          simp only [List.mem_cons, List.not_mem_nil, or_false] at hm
          rcases hm with rfl | rfl
          · exact ⟨_, by omega, by omega, hd⟩
          · exact ⟨_, by omega, by omega, hd⟩
        refine ⟨_, hv, pw106, ?_⟩
        refine ⟨a, _, 40, rfl, by decide, by decide, by omega, p5, fun r6 M6 a6 b6 p6 o6 => ?_⟩
        refine ⟨pw106, sm3, ?_⟩
        refine ⟨a, _, 3, rfl, by decide, by decide, by omega, p6, fun r7 M7 a7 b7 p7 o7 => ?_⟩
        obtain ⟨u, u0, u1, hu⟩ : ∃ u : Int, v ≤ u ∧ u ≤ 1000000 ∧ atI [PyData.int v, .int (min ((10 : Int) ^ (6 : Int).toNat) (v + r6)), .int ((10 : Int) ^ (6 : Int).toNat)] r7 = some (.int u) := by
          obtain ⟨d, hd, hm⟩ := atI_mem (xs := [PyData.int v, .int (min ((10 : Int) ^ (6 : Int).toNat) (v + r6)), .int ((10 : Int) ^ (6 : Int).toNat)]) a7 b7
          simp only [List.mem_cons, List.not_mem_nil, or_false] at hm
          rcases hm with rfl | rfl | rfl
          · exact ⟨_, by omega, by omega, hd⟩
          · exact ⟨_, by rw [pwE]; omega, by rw [pwE]; omega, hd⟩
          · exact ⟨_, by rw [pwE]; omega, by rw [pwE]; omega, hd⟩
        refine ⟨_, hu, sm3, ?_⟩
        exact h (.count v u) M7 ⟨v0, u0, u1⟩ (p7.mono (by omega)) ((((((o1.trans o2).trans o3).trans o4).trans o5).trans o6).trans o7)
/-- a condition over what was asked -/
inductive CnA : List Ask → List Rnd → Nat → Cn → Prop
  | pc {A : List Ask} {R : List Rnd} {d : Nat} {w : Str} {y : PyData} {p : Ask} : p ∈ A → PcFit w y p.2 → CnA A R (d + 1) (.pc w p.1 y)
  | nt {A : List Ask} {R : List Rnd} {d : Nat} {c : Cn} : CnA A R d c → CnA A R (d + 1) (.nt c)
  | jn {A : List Ask} {R : List Rnd} {d : Nat} {w : Str} {cs : List Cn} : (w = "and" ∨ w = "or") → 2 ≤ cs.length → cs.length ≤ 3 → (∀ c ∈ cs, CnA A R d c) → CnA A R (d + 1) (.jn w cs)
  | an {A : List Ask} {R : List Rnd} {d : Nat} {w : Str} {q : Rnd} {c : Cn} : (w = "any" ∨ w = "every") → q ∈ R → CnA (q.2 ++ A) [] d c → CnA A R (d + 1) (.an w q.1 c)
/-- what was asked is known to the scope -/
def AkIn (S : Sc) (own : Str) (wh : Bool) (A : List Ask) : Prop := ∀ p ∈ A, isNameS p.1 = true ∧ KdOk p.2 ∧ (S.asked.lookup p.1 = some (p.2, tNo) ∨ (wh = false ∧ S.asked.lookup p.1 = some (p.2, own)))
def RdIn (S : Sc) (R : List Rnd) : Prop := ∀ q ∈ R, isNameS q.1 = true ∧ S.ended.contains q.1 = true ∧ ∀ p ∈ q.2, isNameS p.1 = true ∧ KdOk p.2 ∧ S.asked.lookup p.1 = some (p.2, q.1)
theorem cng_of {A : List Ask} {R : List Rnd} {d : Nat} {c : Cn} (h : CnA A R d c) {S : Sc} : ∀ {own : Str} {wh : Bool}, AkIn S own wh A → RdIn S R → (R ≠ [] → wh = true) → CnG S own wh d c := by
  induction h with
  | @pc A R d w y p hp hf =>
    intro own wh ha hr hw
    obtain ⟨a, b, e | ⟨_, e⟩⟩ := ha p hp
    · exact .pc e (.inl rfl) hf a b
    · exact .pc e (.inr rfl) hf a b
  | nt _ ih => intro own wh ha hr hw; exact .nt (ih ha hr hw)
  | jn h1 h2 h3 _ ih => intro own wh ha hr hw; exact .jn h1 h2 h3 fun c hc => ih c hc ha hr hw
  | @an A R d w q c h1 hq _ ih =>
    intro own wh ha hr hw
    have e : wh = true := hw (List.ne_nil_of_mem hq)
    subst e
    obtain ⟨a, b, e⟩ := hr q hq
    refine .an h1 b a (ih (wh := false) (fun p hp => ?_) (fun q hq => by cases hq) (fun n => absurd rfl n))
    rcases List.mem_append.mp hp with hp | hp
    · obtain ⟨x, y, z⟩ := e p hp
      exact ⟨x, y, .inr ⟨rfl, z⟩⟩
    · obtain ⟨x, y, z | ⟨z, _⟩⟩ := ha p hp
      · exact ⟨x, y, .inl z⟩
      · cases z
theorem cng_mono {S : Sc} {own : Str} {wh : Bool} {d : Nat} {c : Cn} (h : CnG S own wh d c) : ∀ {e : Nat}, d ≤ e → CnG S own wh e c := by
  induction h with
  | pc a b c d e => intro e' he; obtain ⟨e', rfl⟩ : ∃ x, e' = x + 1 := ⟨e' - 1, by omega⟩; exact .pc a b c d e
  | nt _ ih => intro e' he; obtain ⟨e', rfl⟩ : ∃ x, e' = x + 1 := ⟨e' - 1, by omega⟩; exact .nt (ih (by omega))
  | jn a b c _ ih => intro e' he; obtain ⟨e', rfl⟩ : ∃ x, e' = x + 1 := ⟨e' - 1, by omega⟩; exact .jn a b c fun x hx => ih x hx (by omega)
  | an a b c _ ih => intro e' he; obtain ⟨e', rfl⟩ : ∃ x, e' = x + 1 := ⟨e' - 1, by omega⟩; exact .an a b c (ih (by omega))
/-- as many draws at most -/
def cC : Nat → Nat
  | 0 => 12
  | n + 1 => 12 + 3 * cC n
theorem cC12 : ∀ n, 12 ≤ cC n
  | 0 => Nat.le_refl _
  | n + 1 => by show 12 ≤ 12 + 3 * cC n; omega
theorem all_of {α : Type} {f : α → PyData} {P : α → Prop} : ∀ {ds : List PyData}, (∀ d ∈ ds, ∃ c, d = f c ∧ P c) → ∃ cs : List α, ds = cs.map f ∧ ∀ c ∈ cs, P c
  | [], _ => ⟨[], rfl, fun _ h => by cases h⟩
  | d :: ds, h => by
    obtain ⟨c, rfl, hc⟩ := h d List.mem_cons_self
    obtain ⟨cs, e, hs⟩ := all_of (ds := ds) fun x hx => h x (List.mem_cons_of_mem _ hx)
    refine ⟨c :: cs, by rw [e]; rfl, fun x hx => ?_⟩
    rcases List.mem_cons.mp hx with rfl | hx
    · exact hc
    · exact hs x hx
def full (q : Rnd) : Bool := !q.2.isEmpty
def fullW : W → Bool
  | .d (.tuple [_, .list xs]) => !xs.isEmpty
  | _ => false
theorem full_filter : ∀ R : List Rnd, (((R.map rndD).map W.d).filter fullW).map unW = (R.filter full).map rndD
  | [] => rfl
  | q :: R => by
    rw [List.map_cons, List.map_cons, List.filter_cons, List.filter_cons]
    have e : fullW (.d (rndD q)) = full q := by
      show (!(asksL q.2).isEmpty) = !q.2.isEmpty
      unfold asksL
      rw [List.isEmpty_map]
    rw [e]
    cases full q with
    | true => rw [if_pos rfl, if_pos rfl, List.map_cons, List.map_cons, full_filter R]; rfl
    | false => rw [if_neg Bool.false_ne_true, if_neg Bool.false_ne_true, full_filter R]
theorem ak_len (L : List Ask) : (asksL L).length = L.length := by unfold asksL; rw [List.length_map]
theorem ak_pos {L : List Ask} (h : L ≠ []) : (1 : Int) ≤ ((asksL L).length : Int) := by
  rw [ak_len]
  cases L with
  | nil => exact absurd rfl h
  | cons x l => simp; omega
theorem ak_bits {L : List Ask} (h : L.length ≤ 10000) : ((asksL L).length : Int).natAbs < 2 ^ 2000 := by
  rw [ak_len]
  exact nat_lt_of (n := 20) (by rw [show (2 : Nat) ^ 20 = 1048576 by decide]; omega) (by decide)
theorem ak_get {L : List Ask} {r : Int} (r0 : 0 ≤ r) (r1 : r < ((asksL L).length : Int)) : ∃ p ∈ L, atI (asksL L) r = some (askD p) := by
  rw [ak_len] at r1
  exact pick_get (f := askD) r0 r1
def spDc : Nat → SpD
  | 0 => spNo
  | n + 1 => fun ws M Q _ => ∃ (a : Addr) (c : Nat) (A : List Ask) (R : List Rnd) (d : Nat), ws = [.ref a, .d (asksD A), .d (rndsD R), .d (.int d)] ∧ 1 ≤ d ∧ d ≤ n + 1 ∧ AkOk A ∧ RdOk R ∧ A.length + 500 * d ≤ 5000 ∧
    (A ≠ [] ∨ (2 ≤ d ∧ R.filter full ≠ [])) ∧ c + cC n ≤ lots ∧ Pot a c M ∧ ∀ x M', CnA A R d x → Pot a (c + cC n) M' → Oth a M M' → Q (.d (cnD x)) M'
theorem spDc_len {n} : ∀ ws M Q E, spDc n ws M Q E → ws.length = 4 := by
  cases n with
  | zero => intro _ _ _ _ h; exact h.elim
  | succ n => rintro _ _ _ _ ⟨a, c, A, R, d, rfl, _⟩; rfl
theorem d_L_condition {g : Gc} (T : Txt g) : ∀ n : Nat, Df g (3 + n) "_law_condition" ["_law_pot_here", "_law_asks", "_law_rounds", "_law_deep"] (spDc n)
  | 0 => df_of (k := 2) (i := i_L_condition) T.p_L_condition T.sy sc_L_condition ok_L_condition (fun _ _ _ _ _ _ us hl => match us, hl with | [_, _, _, _], _ => rfl) (fun _ _ _ _ (h : False) => h.elim) (fun _ _ _ _ _ _ _ (h : False) => h.elim)
  | n + 1 => by
    refine df_of (k := 3 + n) (i := i_L_condition) T.p_L_condition T.sy sc_L_condition ok_L_condition (fun _ _ _ _ _ _ us hl => match us, hl with | [_, _, _, _], _ => rfl) ?_ (fun Y ws M Q E F hE h => ?_)
    · exact spDc_len
    · obtain ⟨a, c, A, R, d, rfl, d1, dn, hA, hR, hl, hne, hc, hp, h⟩ := h
      refine ⟨_, (ss_cons (s_set (q_call F 0 (d_L_take T) (a_cons (q_var F 0) (a_cons q_int a_nil))) (g_name F 4)) (ss_cons (s_setlc (own := [("_law_ended", 9)]) F 5 ⟨_, ["_law_pot_here", "_law_asks", "_law_rounds", "_law_deep", "_law_way", "_law_some", "_law_name_here", "_law_own", "_law_parts", "_law_ended", "_law_k"], [9], [9], [], [], false, true⟩ (.one 9) ⟨rfl, rfl, ⟨rfl, by decide +kernel, by decide +kernel, by decide +kernel, by decide +kernel⟩, by decide +kernel, by decide +kernel, rfl, rfl⟩ (by decide) (i_lst (q_var F 2)) (fun _ F hw => ⟨(pgN F 9), (ts_one (t_cmp (o_ne F) (q_ix (q_var F 9) q_int) (q_lst a_nil))), (q_var F 9)⟩)) (ss_cons (s_if (QW.pt (w_and (t_cmp (o_eq F) (q_var F 4) q_int) (w_and (t_cmp (o_ne F) (q_var F 5) (q_lst a_nil)) (w_and1 (t_cmp o_gt (q_var F 3) q_int))))) (ss_cons (s_set (q_ix (q_var F 5) (q_call F 0 (d_L_take T) (a_cons (q_var F 0) (a_cons (q_callB F 5 c_len T.n_len (by decide +kernel) (a_cons (q_var F 5) a_nil)) a_nil)))) (g_tup F (gs_cons (g_name F 6) (gs_cons (g_name F 7) gs_nil)))) (ss_one (s_ret (q_tup (a_cons (q_ix (q_lst (a_cons q_str (a_cons q_str a_nil))) (q_call F 0 (d_L_take T) (a_cons (q_var F 0) (a_cons q_int a_nil)))) (a_cons (q_var F 6) (a_cons (q_call F 2 (d_L_condition T n) (a_cons (q_var F 0) (a_cons (q_bin o_add (q_var F 7) (q_var F 1)) (a_cons (q_lst a_nil) (a_cons (q_bin o_sub (q_var F 3) q_int) a_nil))))) a_nil))))))) ss_nil) (ss_cons (s_if (t_cmp (o_eq F) (q_var F 1) (q_lst a_nil)) (ss_cons (s_set (q_ix (q_var F 5) (q_call F 0 (d_L_take T) (a_cons (q_var F 0) (a_cons (q_callB F 5 c_len T.n_len (by decide +kernel) (a_cons (q_var F 5) a_nil)) a_nil)))) (g_tup F (gs_cons (g_name F 6) (gs_cons (g_name F 7) gs_nil)))) (ss_one (s_ret (q_tup (a_cons (q_ix (q_lst (a_cons q_str (a_cons q_str a_nil))) (q_call F 0 (d_L_take T) (a_cons (q_var F 0) (a_cons q_int a_nil)))) (a_cons (q_var F 6) (a_cons (q_call F 1 (d_L_piece T) (a_cons (q_var F 0) (a_cons (q_ix (q_var F 7) (q_call F 0 (d_L_take T) (a_cons (q_var F 0) (a_cons (q_callB F 5 c_len T.n_len (by decide +kernel) (a_cons (q_var F 7) a_nil)) a_nil)))) a_nil))) a_nil))))))) ss_nil) (ss_cons (s_if (QW.pt (w_or (t_cmp o_lt (q_var F 4) q_int) (w_or1 (t_cmp o_lt (q_var F 3) q_int)))) (ss_one (s_ret (q_call F 1 (d_L_piece T) (a_cons (q_var F 0) (a_cons (q_ix (q_var F 1) (q_call F 0 (d_L_take T) (a_cons (q_var F 0) (a_cons (q_callB F 5 c_len T.n_len (by decide +kernel) (a_cons (q_var F 1) a_nil)) a_nil)))) a_nil))))) ss_nil) (ss_cons (s_if (t_cmp o_lt (q_var F 4) q_int) (ss_one (s_ret (q_tup (a_cons q_str (a_cons (q_call F 2 (d_L_condition T n) (a_cons (q_var F 0) (a_cons (q_var F 1) (a_cons (q_var F 2) (a_cons (q_bin o_sub (q_var F 3) q_int) a_nil))))) a_nil))))) ss_nil) (ss_cons (s_setlc (own := [("_law_k", 10)]) F 8 ⟨_, ["_law_pot_here", "_law_asks", "_law_rounds", "_law_deep", "_law_way", "_law_some", "_law_name_here", "_law_own", "_law_parts", "_law_ended", "_law_k"], [10, 0, 1, 2, 3], [10], [], ["_law_condition"], false, true⟩ (.one 10) ⟨rfl, rfl, ⟨rfl, by decide +kernel, by decide +kernel, by decide +kernel, by decide +kernel⟩, by decide +kernel, by decide +kernel, rfl, rfl⟩ (by decide) (i_rng1 F 4 T.n_range (a_cons (q_bin o_add q_int (q_call F 0 (d_L_take T) (a_cons (q_var F 0) (a_cons q_int a_nil)))) a_nil)) (fun _ F hw => ⟨(pgN F 10), ts_nil, (q_callW hw F 0 (d_L_condition T n) (a_cons (q_var F 0) (a_cons (q_var F 1) (a_cons (q_var F 2) (a_cons (q_bin o_sub (q_var F 3) q_int) a_nil)))))⟩)) (ss_one (s_ret (q_tup (a_cons (q_ix (q_lst (a_cons q_str (a_cons q_str a_nil))) (q_bin o_mod (q_var F 4) q_int)) (a_cons (q_callT F 3 c_tup T.n_tuple (by decide +kernel) (a_cons (q_var F 8) a_nil)) a_nil)))))))))))), ?_⟩
      have c12 := cC12 n
      refine ⟨a, c, 10, rfl, by decide, by decide, by omega, hp, fun way M1 w0 w9 p1 o1 => ?_⟩
      have nA := asks_nil hA
      have hF : ∀ q ∈ R.filter full, q ∈ R ∧ q.2 ≠ [] := fun q hq => by
        obtain ⟨h1, h2⟩ := List.mem_filter.mp hq
        refine ⟨h1, fun e => ?_⟩
        unfold full at h2
        rw [e] at h2
        cases h2
      have lF : (R.filter full).length ≤ 200 := Nat.le_trans (List.length_filter_le _ _) hR.1
      have layF : PyData.canLayAll0 ((R.filter full).map rndD) = true := all_lay fun q hq => rnd_lay ⟨(hR.2 q (hF q hq).1).1, (hR.2 q (hF q hq).1).2.1⟩
      refine lcPe (T := .one 9) (kc := noKc) (M1 := M1) fullW unW ((R.filter full).map rndD) (full_filter R) (by have := hR.1; simp; omega) (fun _ _ _ => trivial) ?_ ?_
      · intro w hw
        obtain ⟨x, hx, rfl⟩ := List.mem_map.mp hw
        obtain ⟨q, hq, rfl⟩ := List.mem_map.mp hx
        obtain ⟨z1, z2, z3⟩ := asks_nil (hR.2 q hq).2.1
        intro M2 k2
        refine ⟨fun R' r => ⟨_, at1, sm0, z1, ?_⟩, fun _ R' r => r⟩
        have e : (!PyData.eqv (asksD q.2) (.list [])) = fullW (.d (rndD q)) := by
          rw [z3]
          show _ = (!(asksL q.2).isEmpty)
          unfold asksL
          rw [List.isEmpty_map]
        rw [← e] at r
        exact bq r
      refine sq_cut (fun σ M' => σ = [some (.ref a), some (.d (asksD A)), some (.d (rndsD R)), some (.d (.int d)), some (.d (.int way)), some (.d (.list ((R.filter full).map rndD))), none, none, none, none, none] ∧ M1 = M') (fun N hN => ?_) ?_
      · exact hN _ _ ⟨rfl, rfl⟩
      rintro _ _ ⟨rfl, rfl⟩
      obtain ⟨y1, y2, y3⟩ := ne_nil (xs := (R.filter full).map rndD) layF
      have lnF : ((R.filter full).map rndD).length = (R.filter full).length := by simp
      have rl1 : R.filter full ≠ [] → (1 : Int) ≤ (((R.filter full).map rndD).length : Int) := by
        intro hne'
        rw [lnF]
        cases e : R.filter full with
        | nil => exact absurd e hne'
        | cons x l => simp; omega
      have rl2 : (((R.filter full).map rndD).length : Int).natAbs < 2 ^ 2000 := by rw [lnF]; exact nat_lt_of (n := 20) (by rw [show (2 : Nat) ^ 20 = 1048576 by decide]; omega) (by decide)
      have rget : ∀ {r : Int}, 0 ≤ r → r < (((R.filter full).map rndD).length : Int) → ∃ q : Rnd, q ∈ R ∧ q.2 ≠ [] ∧ atI ((R.filter full).map rndD) r = some (rndD q) := by
        intro r r0 r1
        obtain ⟨q, hq, e⟩ := pick_get (f := rndD) (l := R.filter full) r0 (by rw [lnF] at r1; exact r1)
        exact ⟨q, (hF q hq).1, (hF q hq).2, e⟩
      have anw : ∀ {r : Int}, 0 ≤ r → r < 2 → ∃ w : Str, atI [PyData.str "any", .str "every"] r = some (.str w) ∧ (w = "any" ∨ w = "every") := by
        intro r r0 r1
        obtain ⟨w, hw, e⟩ := pick_get (f := PyData.str) (l := [("any" : Str), "every"]) r0 r1
        exact ⟨w, e, by simpa using hw⟩
      refine sq_cut (fun σ M' => σ = [some (.ref a), some (.d (asksD A)), some (.d (rndsD R)), some (.d (.int d)), some (.d (.int way)), some (.d (.list ((R.filter full).map rndD))), none, none, none, none, none] ∧ M1 = M') (fun N hN => ?_) ?_
      · refine ⟨rfl, ?_⟩
        cases e9 : PyData.eqv (.int way) (.int 9) with
        | false =>
          refine bqc false (by first | exact e9 | rfl) ?_
          refine iteF ?_
          exact hN _ _ ⟨rfl, rfl⟩
        | true =>
          refine bqc true (by first | exact e9 | rfl) ?_
          refine iteT ?_
          refine ⟨sm0, y1, ?_⟩
          by_cases hz : R.filter full = []
          · refine bqc false (by rw [y3, hz]; rfl) ?_
            refine iteF ?_
            refine iteF ?_
            exact hN _ _ ⟨rfl, rfl⟩
          refine bqc true (by rw [y3]; cases e : R.filter full with | nil => exact absurd e hz | cons x l => rfl) ?_
          refine iteT ?_
          refine ifD (fun hd => ?_) (fun _ => hN _ _ ⟨rfl, rfl⟩)
          have hd : (1 : Int) < (d : Int) := hd
          obtain ⟨n, rfl⟩ : ∃ n', n = n' + 1 := ⟨n - 1, by omega⟩
          obtain ⟨d, rfl⟩ : ∃ d', d = d' + 1 := ⟨d - 1, by omega⟩
          have cn : cC (n + 1) = 12 + 3 * cC n := rfl
          have c12' := cC12 n
          refine ⟨a, _, _, rfl, rl1 hz, rl2, by omega, p1, fun r M2 r0 r1 p2 o2 => ?_⟩
          obtain ⟨q, hq, hq2, e⟩ := rget r0 r1
          obtain ⟨q1, q2, q3⟩ := hR.2 q hq
          refine ⟨_, e, rfl, ?_⟩
          refine ⟨sm2, a, _, 2, rfl, by decide, by decide, by omega, p2, fun r5 M3 a5 b5 p3 o3 => ?_⟩
          obtain ⟨w, hw, hw2⟩ := anw a5 b5
          refine ⟨_, hw, ?_⟩
          have lq : q.2.length + A.length ≤ 6000 := by omega
          refine ⟨smL (by unfold asksL; rw [List.length_map, List.length_map]; omega), sm0, ?_⟩
          refine ⟨a, _, q.2 ++ A, [], d, ?_, by omega, by omega, ?_, ⟨Nat.zero_le _, fun q hq => by cases hq⟩, ?_, ?_, ?_, p3, fun x M4 hx p4 o4 => ?_⟩
          · have e1 : asksD (q.2 ++ A) = .list (asksL q.2 ++ asksL A) := by unfold asksD asksL; rw [List.map_append]
            have e2 : (((d + 1 : Nat) : Int) - 1) = (d : Int) := by omega
            rw [e1, ← e2]
            rfl
          · intro p hp
            rcases List.mem_append.mp hp with hp | hp
            · exact q2 p hp
            · exact hA p hp
          · rw [List.length_append]; omega
          · left
            intro e
            exact hq2 (List.append_eq_nil_iff.mp e).1
          · omega
          · refine ⟨sm3, h _ M4 (.an hw2 hq hx) (p4.mono (by omega)) (((o1.trans o2).trans o3).trans o4)⟩
      rintro _ _ ⟨rfl, rfl⟩
      refine ⟨sm0, nA.2.1, ?_⟩
      cases eA : A.isEmpty with
      | true =>
        refine bqc true (by rw [nA.2.2, eA]) (iteT ?_)
        have eA' : A = [] := List.isEmpty_iff.mp eA
        obtain ⟨d2, hz⟩ := hne.resolve_left fun n => n eA'
        obtain ⟨d, rfl⟩ : ∃ d', d = d' + 1 + 1 := ⟨d - 2, by omega⟩
        refine ⟨a, _, _, rfl, rl1 hz, rl2, by omega, p1, fun r M2 r0 r1 p2 o2 => ?_⟩
        obtain ⟨q, hq, hq2, e⟩ := rget r0 r1
        obtain ⟨q1, q2, q3⟩ := hR.2 q hq
        refine ⟨_, e, rfl, ?_⟩
        refine ⟨sm2, a, _, 2, rfl, by decide, by decide, by omega, p2, fun r5 M3 a5 b5 p3 o3 => ?_⟩
        obtain ⟨w, hw, hw2⟩ := anw a5 b5
        refine ⟨_, hw, ?_⟩
        refine ⟨a, _, _, rfl, ak_pos hq2, ak_bits (by omega), by omega, p3, fun r6 M4 a6 b6 p4 o4 => ?_⟩
        obtain ⟨p, hp', e'⟩ := ak_get a6 b6
        refine ⟨_, e', a, _, p, rfl, (q2 p hp').1, (q2 p hp').2, by omega, p4, fun w' y M5 hf p5 o5 => ⟨sm3, ?_⟩⟩
        exact h _ M5 (.an hw2 hq (.pc (List.mem_append_left _ hp') hf)) (p5.mono (by omega)) ((((o1.trans o2).trans o3).trans o4).trans o5)
      | false =>
        refine bqc false (by rw [nA.2.2, eA]) (iteF ?_)
        have neA : A ≠ [] := by rintro rfl; cases eA
        obtain ⟨d, rfl⟩ : ∃ d', d = d' + 1 := ⟨d - 1, by omega⟩
        dsimp only [tNxt]
        refine sq_cut (fun σ M' => σ = [some (.ref a), some (.d (asksD A)), some (.d (rndsD R)), some (.d (.int ((d + 1 : Nat) : Int))), some (.d (.int way)), some (.d (.list ((R.filter full).map rndD))), none, none, none, none, none] ∧ M1 = M' ∧ 1 ≤ d) (fun N hN => ?_) ?_
        · dsimp only [tIfD, Dl.tOrT, tTst, tBin, Dl.tVar, slotQ, tK, rInt0]
          by_cases h5 : way < 5
          · refine bqc true (decide_eq_true h5) ?_
            refine iteT ?_
            refine ⟨a, _, _, rfl, ak_pos neA, ak_bits (by omega), by omega, p1, fun r6 M4 a6 b6 p4 o4 => ?_⟩
            obtain ⟨p, hp', e'⟩ := ak_get a6 b6
            refine ⟨_, e', a, _, p, rfl, (hA p hp').1, (hA p hp').2, by omega, p4, fun w' y M5 hf p5 o5 => ?_⟩
            exact h _ M5 (.pc hp' hf) (p5.mono (by omega)) ((o1.trans o4).trans o5)
          · refine bqc false (decide_eq_false h5) ?_
            refine iteF ?_
            refine ifD (fun _ => ?_) (fun hd => ?_)
            · refine ⟨a, _, _, rfl, ak_pos neA, ak_bits (by omega), by omega, p1, fun r6 M4 a6 b6 p4 o4 => ?_⟩
              obtain ⟨p, hp', e'⟩ := ak_get a6 b6
              refine ⟨_, e', a, _, p, rfl, (hA p hp').1, (hA p hp').2, by omega, p4, fun w' y M5 hf p5 o5 => ?_⟩
              exact h _ M5 (.pc hp' hf) (p5.mono (by omega)) ((o1.trans o4).trans o5)
            · have hd : ¬ (((d + 1 : Nat) : Int) < 2) := hd
              exact hN _ _ ⟨rfl, rfl, by omega⟩
        rintro _ _ ⟨rfl, rfl, d1'⟩
        obtain ⟨n, rfl⟩ : ∃ n', n = n' + 1 := ⟨n - 1, by omega⟩
        have cn : cC (n + 1) = 12 + 3 * cC n := rfl
        have c12' := cC12 n
        have ed : (((d + 1 : Nat) : Int) - 1) = (d : Int) := by omega
        refine ifD (fun _ => ?_) (fun hw7 => ?_)
        · refine ⟨a, _, A, R, d, ?_, by omega, by omega, hA, hR, by omega, .inl neA, ?_, p1, fun x M4 hx p4 o4 => ?_⟩
          · rw [← ed]
          · omega
          · exact ⟨sm2, h _ M4 (.nt hx) (p4.mono (by omega)) (o1.trans o4)⟩
        refine ⟨a, _, 2, rfl, by decide, by decide, by omega, p1, fun r5 M3 a5 b5 p3 o3 => ?_⟩
        refine ⟨⟨by omega, by omega⟩, ?_⟩
        have ew : (rng 0 ((2 : Int) + r5).toNat).length = (2 + r5).toNat := rng_len
        have e3 : (2 + r5).toNat ≤ 3 := by omega
        have c3 : cC n * (2 + r5).toNat ≤ cC n * 3 := Nat.mul_le_mul_left _ e3
        refine lcDraw (T := .one 10) (kc := noKc) a _ (cC n) (fun x => ∃ z, x = cnD z ∧ CnA A R d z) (by rw [ew]; omega) (fun _ => trivial) p3 ?_ ?_
        · intro j w hj M4 p4 o4 R' k
          have hj2 : j < (2 + r5).toNat := by rw [← ew]; exact (List.getElem?_eq_some_iff.mp hj).1
          have c4 : cC n * j + cC n ≤ cC n * 3 := by rw [← Nat.mul_succ]; exact Nat.mul_le_mul_left _ (by omega)
          refine ⟨a, _, A, R, d, ?_, by omega, by omega, hA, hR, by omega, .inl neA, ?_, p4, fun x M5 hx p5 o5 => k _ M5 ⟨x, rfl, hx⟩ p5 o5⟩
          · rw [← ed]
          · omega
        · intro ds M4 hl hP p4 o4
          obtain ⟨cs, rfl, hcs⟩ := all_of hP
          rw [ew] at hl p4
          rw [List.length_map] at hl
          have m0 := fm_lo (x := way) (m := 2) (by decide)
          have m1 := fm_hi (x := way) (m := 2) (by decide)
          obtain ⟨w, hw, e⟩ := pick_get (f := PyData.str) (l := [("and" : Str), "or"]) m0 m1
          refine ⟨sm2, (show (2 : Int) ≠ 0 by decide), _, e, sm2, ?_⟩
          have := h (.jn w cs) M4 (.jn (by simpa using hw) (by omega) (by omega) hcs) (p4.mono (by omega)) ((o1.trans o3).trans o4)
          rw [cnD, cnDs_map] at this
          exact this
end Ms
set_option Elab.async false
set_option linter.all false
set_option maxRecDepth 100000
namespace Ms
open PySem PySem.Spec PyProof.Rows L2 Dl
/-! ### the law's book beside a scope -/
structure Bk where
  cnt : Nat
  asks : List Ask
  rounds : List Rnd
  own : List Ask
  left : Nat
/-- the book fits the scope -/
structure Cm (S : Sc) (B : Bk) (ps : List Str) (ins : Bool) (deep : Nat) : Prop where
  ok : SOk S
  ai : ∀ p ∈ B.asks, isNameS p.1 = true ∧ KdOk p.2 ∧ S.asked.lookup p.1 = some (p.2, tNo)
  oi : ∀ p ∈ B.own, isNameS p.1 = true ∧ KdOk p.2 ∧ S.asked.lookup p.1 = some (p.2, S.own)
  ri : RdIn S B.rounds
  io : ins = false → S.own = tNo ∧ B.own = []
  ie : ins = true → S.own ≠ tNo
  nm : ∀ z ∈ S.named, ∃ c, c ≤ B.cnt ∧ NmOf c z
  cn : B.cnt + 4 * B.left ≤ 270
  st : S.steps + B.left ≤ 60
  pb : ∀ p ∈ ps, isNameS p = true ∧ (tPart, p) ∈ S.begun
  dp : S.begun.length = deep
  la : B.asks.length ≤ S.steps
  lo : B.own.length ≤ S.steps
  lr : B.rounds.length + (if ins = true then 1 else 0) ≤ S.steps
  lq : ∀ q ∈ B.rounds, q.2.length ≤ 60
  lp : ps.length ≤ deep
theorem lookup_app {l : List (Str × (Kd × Str))} {n z : Str} {q v : Kd × Str} (h : l.lookup z = some v) : (l ++ [(n, q)]).lookup z = some v := by
  induction l with
  | nil => cases h
  | cons p l ih =>
    obtain ⟨a, b⟩ := p
    rw [List.cons_append, List.lookup_cons]
    rw [List.lookup_cons] at h
    cases e : z == a with
    | true => rw [e] at h; exact h
    | false => rw [e] at h; exact ih h
theorem lookup_new {l : List (Str × (Kd × Str))} {n : Str} {q : Kd × Str} (h : sHas l n = false) : (l ++ [(n, q)]).lookup n = some q := by
  unfold sHas at h
  induction l with
  | nil => rw [List.nil_append, List.lookup_cons, beq_self_eq_true]
  | cons p l ih =>
    obtain ⟨a, b⟩ := p
    rw [List.cons_append, List.lookup_cons]
    rw [List.lookup_cons] at h
    cases e : n == a with
    | true => rw [e] at h; cases h
    | false => rw [e] at h; exact ih h
def Bk.rnds (B : Bk) (ins : Bool) : List Rnd := if ins = true then [] else B.rounds
theorem Cm.ak {S : Sc} {B : Bk} {ps : List Str} {ins : Bool} {deep : Nat} (h : Cm S B ps ins deep) : AkOk (B.asks ++ B.own) := by
  intro p hp
  rcases List.mem_append.mp hp with hp | hp
  · exact ⟨(h.ai p hp).1, (h.ai p hp).2.1⟩
  · exact ⟨(h.oi p hp).1, (h.oi p hp).2.1⟩
theorem Cm.rk {S : Sc} {B : Bk} {ps : List Str} {ins : Bool} {deep : Nat} (h : Cm S B ps ins deep) : RdOk B.rounds := by
  refine ⟨?_, fun q hq => ⟨(h.ri q hq).1, fun p hp => ⟨((h.ri q hq).2.2 p hp).1, ((h.ri q hq).2.2 p hp).2.1⟩, Nat.le_trans (h.lq q hq) (by decide)⟩⟩
  have := h.lr
  have := h.st
  omega
theorem Cm.rks {S : Sc} {B : Bk} {ps : List Str} {ins : Bool} {deep : Nat} (h : Cm S B ps ins deep) : RdOk (B.rnds ins) := by
  unfold Bk.rnds
  split
  · exact ⟨Nat.zero_le _, fun q hq => by cases hq⟩
  · exact h.rk
theorem Cm.knows {S : Sc} {B : Bk} {ps : List Str} {ins : Bool} {deep d : Nat} {c : Cn} (h : Cm S B ps ins deep) (hc : CnA (B.asks ++ B.own) (B.rnds ins) d c) (hd : d ≤ 3) : Knows S.tick c := by
  have g : CnG S.tick S.own (S.own == tNo) d c := by
    refine cng_of hc (fun p hp => ?_) (fun q hq => ?_) (fun n => ?_)
    · rcases List.mem_append.mp hp with hp | hp
      · obtain ⟨x, y, z⟩ := h.ai p hp
        exact ⟨x, y, .inl z⟩
      · obtain ⟨x, y, z⟩ := h.oi p hp
        refine ⟨x, y, .inr ⟨?_, z⟩⟩
        cases ins with
        | true => exact beq_eq_false_iff_ne.mpr (h.ie rfl)
        | false => rw [(h.io rfl).2] at hp; cases hp
    · unfold Bk.rnds at hq
      split at hq
      · cases hq
      · exact h.ri q hq
    · cases ins with
      | true => exact absurd rfl n
      | false => rw [(h.io rfl).1]; decide +kernel
  exact cng_mono g hd
/-- .. and one step more may come -/
structure Cm1 (S : Sc) (B : Bk) (ps : List Str) (ins : Bool) (deep : Nat) : Prop where
  m : Cm S B ps ins deep
  s : S.steps + B.left < 60
  c : B.cnt + 4 * B.left ≤ 266
  d : deep ≤ 4
theorem Cm1.can {S : Sc} {B : Bk} {ps : List Str} {ins : Bool} {deep : Nat} (h : Cm1 S B ps ins deep) : Can S := ⟨h.m.ok, by have := h.s; omega, by have := h.m.dp; have := h.d; omega⟩
theorem Cm1.tick {S : Sc} {B : Bk} {ps : List Str} {ins : Bool} {deep : Nat} (h : Cm1 S B ps ins deep) : Cm S.tick B ps ins deep := by
  have m := h.m
  have e : S.tick.steps = S.steps + 1 := rfl
  refine ⟨SOk.tick h.can, m.ai, m.oi, m.ri, m.io, m.ie, m.nm, m.cn, ?_, m.pb, m.dp, ?_, ?_, ?_, m.lq, m.lp⟩
  · have := h.s; omega
  · have := m.la; omega
  · have := m.lo; omega
  · have := m.lr; omega
/-- a name of a higher number is new -/
theorem Cm1.new {S : Sc} {B : Bk} {ps : List Str} {ins : Bool} {deep c : Nat} {z : Str} (h : Cm1 S B ps ins deep) (c0 : B.cnt < c) (c1 : c ≤ B.cnt + 3) (hz : NmOf c z) : New S z := by
  refine ⟨hz.1, ?_⟩
  cases e : S.named.contains z with
  | false => rfl
  | true =>
    have hm : z ∈ S.named := by simpa using e
    obtain ⟨c', l, hc⟩ := h.m.nm z hm
    have := h.c
    exact absurd rfl (nm_ne hz hc (by omega) (by omega) (by omega))
theorem Cm1.nameC {S : Sc} {B : Bk} {ps : List Str} {ins : Bool} {deep c : Nat} {z : Str} (h : Cm1 S B ps ins deep) (c0 : B.cnt < c) (c1 : c ≤ B.cnt + 3) (hz : NmOf c z) : ∀ y ∈ S.named ++ [z], ∃ c', c' ≤ c ∧ NmOf c' y := by
  intro y hy
  rcases List.mem_append.mp hy with hy | hy
  · obtain ⟨c', l, hc⟩ := h.m.nm y hy
    exact ⟨c', by omega, hc⟩
  · rw [List.mem_singleton.mp hy]
    exact ⟨c, Nat.le_refl _, hz⟩
/-- a question asked -/
theorem Cm1.ask {S : Sc} {B : Bk} {ps : List Str} {ins : Bool} {deep c : Nat} {z : Str} {k : Kd} (h : Cm1 S B ps ins deep) (c0 : B.cnt < c) (c1 : c ≤ B.cnt + 3) (hz : NmOf c z) (hk : KdOk k) :
    Cm (S.tick.ask z k) { B with cnt := c, asks := if ins = true then B.asks else B.asks ++ [(z, k)], own := if ins = true then B.own ++ [(z, k)] else B.own } ps ins deep := by
  have m := h.m
  have hs := h.s
  have hc := h.c
  have nw := h.new c0 c1 hz
  have e : (S.tick.ask z k).steps = S.steps + 1 := rfl
  have nh : sHas S.asked z = false := by
    cases e : sHas S.asked z with
    | false => rfl
    | true => have := m.ok.an z e; rw [nw.2] at this; cases this
  have up : ∀ {x : Str} {v : Kd × Str}, S.asked.lookup x = some v → (S.tick.ask z k).asked.lookup x = some v := fun hx => lookup_app hx
  have nwl : (S.tick.ask z k).asked.lookup z = some (k, S.own) := lookup_new nh
  refine ⟨SOk.ask h.can hk, ?_, ?_, ?_, ?_, m.ie, h.nameC c0 c1 hz, ?_, ?_, m.pb, m.dp, ?_, ?_, ?_, m.lq, m.lp⟩
  · intro p hp
    cases ins with
    | true => obtain ⟨x, y, w⟩ := m.ai p hp; exact ⟨x, y, up w⟩
    | false =>
      rcases List.mem_append.mp hp with hp | hp
      · obtain ⟨x, y, w⟩ := m.ai p hp; exact ⟨x, y, up w⟩
      · rw [List.mem_singleton.mp hp]
        refine ⟨hz.1, hk, ?_⟩
        show (S.tick.ask z k).asked.lookup z = _
        rw [nwl, (m.io rfl).1]
  · intro p hp
    cases ins with
    | false => obtain ⟨x, y, w⟩ := m.oi p hp; exact ⟨x, y, up w⟩
    | true =>
      rcases List.mem_append.mp hp with hp | hp
      · obtain ⟨x, y, w⟩ := m.oi p hp; exact ⟨x, y, up w⟩
      · rw [List.mem_singleton.mp hp]
        exact ⟨hz.1, hk, nwl⟩
  · intro q hq
    obtain ⟨x, y, w⟩ := m.ri q hq
    exact ⟨x, y, fun p hp => ⟨(w p hp).1, (w p hp).2.1, up (w p hp).2.2⟩⟩
  · rintro rfl
    exact m.io rfl
  · show c + 4 * B.left ≤ 270
    omega
  · show S.steps + 1 + B.left ≤ 60
    omega
  · have := m.la
    rw [e]
    show (if ins = true then B.asks else B.asks ++ [(z, k)]).length ≤ _
    split
    · omega
    · simp; omega
  · have := m.lo
    rw [e]
    show (if ins = true then B.own ++ [(z, k)] else B.own).length ≤ _
    split
    · simp; omega
    · omega
  · have := m.lr
    rw [e]
    show B.rounds.length + _ ≤ _
    omega
/-- a part begun -/
theorem Cm1.part {S : Sc} {B : Bk} {ps : List Str} {ins : Bool} {deep c : Nat} {z : Str} (h : Cm1 S B ps ins deep) (c0 : B.cnt < c) (c1 : c ≤ B.cnt + 3) (hz : NmOf c z) : Cm ((S.tick.name z).push tPart z) { B with cnt := c } (ps ++ [z]) ins (deep + 1) := by
  have m := h.m
  have hs := h.s
  have hc := h.c
  have e : ((S.tick.name z).push tPart z).steps = S.steps + 1 := rfl
  refine ⟨SOk.pushP h.can hz.1, m.ai, m.oi, m.ri, m.io, m.ie, h.nameC c0 c1 hz, ?_, ?_, ?_, ?_, ?_, ?_, ?_, m.lq, ?_⟩
  · show c + 4 * B.left ≤ 270
    omega
  · show S.steps + 1 + B.left ≤ 60
    omega
  · intro p hp
    show _ ∧ (tPart, p) ∈ S.begun ++ [(tPart, z)]
    rcases List.mem_append.mp hp with hp | hp
    · exact ⟨(m.pb p hp).1, List.mem_append_left _ (m.pb p hp).2⟩
    · rw [List.mem_singleton.mp hp]
      exact ⟨hz.1, List.mem_append_right _ (List.mem_singleton_self _)⟩
  · show (S.begun ++ [(tPart, z)]).length = _
    rw [List.length_append, m.dp]
    rfl
  · have := m.la; rw [e]; exact Nat.le_succ_of_le this
  · have := m.lo; rw [e]; exact Nat.le_succ_of_le this
  · have := m.lr; rw [e]; exact Nat.le_succ_of_le this
  · rw [List.length_append]; exact Nat.succ_le_succ m.lp
/-- a block begun -/
theorem Cm1.iff {S : Sc} {B : Bk} {ps : List Str} {ins : Bool} {deep : Nat} (h : Cm1 S B ps ins deep) : Cm (S.tick.push tIf tNo) B ps ins (deep + 1) := by
  have m := h.m
  have hs := h.s
  have hc := h.c
  have e : (S.tick.push tIf tNo).steps = S.steps + 1 := rfl
  refine ⟨SOk.pushI h.can, m.ai, m.oi, m.ri, m.io, m.ie, m.nm, m.cn, ?_, ?_, ?_, ?_, ?_, ?_, m.lq, Nat.le_succ_of_le m.lp⟩
  · show S.steps + 1 + B.left ≤ 60
    omega
  · intro p hp
    exact ⟨(m.pb p hp).1, List.mem_append_left _ (m.pb p hp).2⟩
  · show (S.begun ++ [(tIf, tNo)]).length = _
    rw [List.length_append, m.dp]
    rfl
  · have := m.la; rw [e]; exact Nat.le_succ_of_le this
  · have := m.lo; rw [e]; exact Nat.le_succ_of_le this
  · have := m.lr; rw [e]; exact Nat.le_succ_of_le this
/-- a block that is no round ended -/
theorem Cm.pop {S : Sc} {B : Bk} {ps qs : List Str} {ins : Bool} {deep : Nat} {b : List (Str × Str)} {w n : Str} (m : Cm S B qs ins (deep + 1)) (hb : S.begun = b ++ [(w, n)]) (hw : w ≠ tEach) (hp : ∀ p ∈ ps, isNameS p = true ∧ (tPart, p) ∈ b) (lp : ps.length ≤ deep) : Cm S.pop B ps ins deep := by
  have e : S.begun.dropLast = b := by rw [hb]; simp
  refine ⟨SOk.popI m.ok hb hw, m.ai, m.oi, m.ri, m.io, m.ie, m.nm, m.cn, m.st, ?_, ?_, m.la, m.lo, m.lr, m.lq, lp⟩
  · intro p h
    refine ⟨(hp p h).1, ?_⟩
    show (tPart, p) ∈ S.begun.dropLast
    rw [e]
    exact (hp p h).2
  · show S.begun.dropLast.length = deep
    have := m.dp
    rw [hb] at this
    rw [e]
    simpa using this
/-- a round begun -/
theorem Cm1.each {S : Sc} {B : Bk} {ps : List Str} {deep c : Nat} {z : Str} (h : Cm1 S B ps false deep) (c0 : B.cnt < c) (c1 : c ≤ B.cnt + 3) (hz : NmOf c z) : Cm ((S.tick.name z).pushE z) { B with cnt := c } ps true (deep + 1) := by
  have m := h.m
  have hs := h.s
  have hc := h.c
  have e : ((S.tick.name z).pushE z).steps = S.steps + 1 := rfl
  have ho := m.io rfl
  refine ⟨SOk.pushE h.can hz.1 ho.1, m.ai, ?_, m.ri, ?_, fun _ => name_ne hz.1, h.nameC c0 c1 hz, ?_, ?_, ?_, ?_, ?_, ?_, ?_, m.lq, Nat.le_succ_of_le m.lp⟩
  · intro p hp
    rw [show ({ B with cnt := c } : Bk).own = [] from ho.2] at hp
    cases hp
  · intro q; cases q
  · show c + 4 * B.left ≤ 270
    omega
  · show S.steps + 1 + B.left ≤ 60
    omega
  · intro p hp
    exact ⟨(m.pb p hp).1, List.mem_append_left _ (m.pb p hp).2⟩
  · show (S.begun ++ [(tEach, z)]).length = _
    rw [List.length_append, m.dp]
    rfl
  · have := m.la; rw [e]; exact Nat.le_succ_of_le this
  · have := m.lo; rw [e]; exact Nat.le_succ_of_le this
  · have := m.lr
    rw [e]
    show B.rounds.length + 1 ≤ S.steps + 1
    rw [if_neg Bool.false_ne_true] at this
    omega
/-- .. ended -/
theorem Cm.popE {S : Sc} {B : Bk} {ps : List Str} {deep : Nat} {b : List (Str × Str)} {n : Str} (m : Cm S B ps true (deep + 1)) (hn : isNameS n = true) (hb : S.begun = b ++ [(tEach, n)]) (ho : S.own = n) (hp : ∀ p ∈ ps, isNameS p = true ∧ (tPart, p) ∈ b) (lp : ps.length ≤ deep) :
    Cm (S.popE n) { B with rounds := B.rounds ++ [(n, B.own)], own := [] } ps false deep := by
  have e : S.begun.dropLast = b := by rw [hb]; simp
  have en : (if S.ended.contains n = true then S.ended else S.ended ++ [n]).contains n = true := by
    split
    · assumption
    · simp
  have eo : ∀ z, S.ended.contains z = true → (if S.ended.contains n = true then S.ended else S.ended ++ [n]).contains z = true := by
    intro z hz
    split
    · exact hz
    · simp at hz ⊢; exact .inl hz
  refine ⟨SOk.popE m.ok hb, m.ai, fun p hp => (by cases hp), ?_, fun _ => ⟨rfl, rfl⟩, fun q => by (cases q), m.nm, m.cn, m.st, ?_, ?_, m.la, Nat.zero_le _, ?_, ?_, lp⟩
  · intro q hq
    rcases List.mem_append.mp hq with hq | hq
    · obtain ⟨x, y, w⟩ := m.ri q hq
      exact ⟨x, eo _ y, w⟩
    · rw [List.mem_singleton.mp hq]
      refine ⟨hn, en, fun p hp => ?_⟩
      have := m.oi p hp
      rw [ho] at this
      exact this
  · intro p h
    refine ⟨(hp p h).1, ?_⟩
    show (tPart, p) ∈ S.begun.dropLast
    rw [e]
    exact (hp p h).2
  · show S.begun.dropLast.length = deep
    have := m.dp
    rw [hb] at this
    rw [e]
    simpa using this
  · have := m.lr
    show (B.rounds ++ [(n, B.own)]).length + 0 ≤ S.steps
    rw [List.length_append]
    exact this
  · intro q hq
    rcases List.mem_append.mp hq with hq | hq
    · exact m.lq q hq
    · rw [List.mem_singleton.mp hq]
      have := m.lo
      have := m.ok.ls
      show B.own.length ≤ 60
      omega
theorem fitL_snoc : ∀ {ss : List Stp} {S S1 S2 : Sc} {s : Stp}, FitL S ss S1 → FitS S1 s S2 → FitL S (ss ++ [s]) S2
  | [], S, S1, S2, s, h, g => by
    obtain ⟨ok, rfl⟩ := h
    exact ⟨S2, g, (fitS_ok s g).1, rfl⟩
  | x :: ss, S, S1, S2, s, h, g => by
    obtain ⟨T, h1, h2⟩ := h
    exact ⟨T, h1, fitL_snoc h2 g⟩
/-! ### the book in the heap -/
def bkW (pa po : Addr) (B : Bk) : List W := [.d (.int B.cnt), .ref pa, .d (rndsD B.rounds), .ref po, .d (.int B.left)]
def akW (A : List Ask) : O := .lst ((asksL A).map W.d)
structure BkAt (M : MH) (a b pa po : Addr) (B : Bk) : Prop where
  ba : b ≠ a
  aa : pa ≠ a
  oa : po ≠ a
  ab : pa ≠ b
  ob : po ≠ b
  ao : pa ≠ po
  b : M b = some (.lst (bkW pa po B))
  a : M pa = some (akW B.asks)
  o : M po = some (akW B.own)
theorem BkAt.oth {M M' : MH} {a b pa po : Addr} {B : Bk} (h : BkAt M a b pa po B) (k : Oth a M M') : BkAt M' a b pa po B :=
  ⟨h.ba, h.aa, h.oa, h.ab, h.ob, h.ao, k _ _ h.ba h.b, k _ _ h.aa h.a, k _ _ h.oa h.o⟩
/-- another counter -/
theorem BkAt.oth2 {M M' : MH} {a b pa po : Addr} {B : Bk} {c : Nat} (h : BkAt M a b pa po B) (k : Oth2 a b M M') (e : M' b = some (.lst (bkW pa po { B with cnt := c }))) : BkAt M' a b pa po { B with cnt := c } :=
  ⟨h.ba, h.aa, h.oa, h.ab, h.ob, h.ao, e, k _ _ h.aa h.ab h.a, k _ _ h.oa h.ob h.o⟩
/-- all but the book's own stays -/
def Mv (a b pa po po' : Addr) (M M' : MH) : Prop := (∀ x o, x ≠ a → x ≠ b → x ≠ pa → x ≠ po → M x = some o → M' x = some o) ∧ (po' = po ∨ M po' = none)
theorem Mv.oth {a b pa po : Addr} {M M' : MH} (k : Oth a M M') : Mv a b pa po po M M' := ⟨fun x o n _ _ _ e => k x o n e, .inl rfl⟩
theorem Mv.oth2 {a b pa po : Addr} {M M' : MH} (k : Oth2 a b M M') : Mv a b pa po po M M' := ⟨fun x o n m _ _ e => k x o n m e, .inl rfl⟩
theorem Mv.trans {a b pa p1 p2 p3 : Addr} {M M1 M2 : MH} (h : Mv a b pa p1 p2 M M1) (k : Mv a b pa p2 p3 M1 M2) (na : M1 a ≠ none) (nb : M1 b ≠ none) (np : M1 pa ≠ none) : Mv a b pa p1 p3 M M2 := by
  obtain ⟨h1, h2⟩ := h
  obtain ⟨k1, k2⟩ := k
  refine ⟨fun x o xa xb xp x1 e => ?_, ?_⟩
  · refine k1 x o xa xb xp ?_ (h1 x o xa xb xp x1 e)
    rintro rfl
    rcases h2 with rfl | h2
    · exact x1 rfl
    · rw [h2] at e; cases e
  · rcases k2 with rfl | k2
    · exact h2
    · by_cases e1 : p3 = p1
      · exact .inl e1
      · right
        cases e : M p3 with
        | none => rfl
        | some o =>
          have := h1 p3 o (by rintro rfl; exact na k2) (by rintro rfl; exact nb k2) (by rintro rfl; exact np k2) e1 e
          rw [k2] at this
          cases this
theorem BkAt.nb {M : MH} {a b pa po : Addr} {B : Bk} (h : BkAt M a b pa po B) : M b ≠ none := by rw [h.b]; simp
theorem BkAt.np {M : MH} {a b pa po : Addr} {B : Bk} (h : BkAt M a b pa po B) : M pa ≠ none := by rw [h.a]; simp
end Ms
set_option Elab.async false
set_option linter.all false
set_option maxRecDepth 100000
namespace Ms
open PySem PySem.Spec PyProof.Rows L2 Dl
/-! ### drawing of steps -/
theorem at3 {α : Type} {w x y z : α} {l : List α} : atI (w :: x :: y :: z :: l) 3 = some z := by
  have := atI_nat (xs := w :: x :: y :: z :: l) (j := 3) (v := z) rfl
  simpa using this
theorem at4 {α : Type} {v w x y z : α} {l : List α} : atI (v :: w :: x :: y :: z :: l) 4 = some z := by
  have := atI_nat (xs := v :: w :: x :: y :: z :: l) (j := 4) (v := z) rfl
  simpa using this
theorem asks_app (A C : List Ask) : asksL (A ++ C) = asksL A ++ asksL C := by unfold asksL; rw [List.map_append]
/-- a count of few things -/
def cnt4 (p : Ask) : Bool := match p.2 with | .count _ y => decide (y ≤ 4) | _ => false
def cntW : W → Bool
  | .d (.tuple [_, .tuple [_, _, .int y]]) => decide (y ≤ 4)
  | _ => false
theorem cntW_of (p : Ask) : cntW (.d (askD p)) = cnt4 p := by
  obtain ⟨n, k⟩ := p
  cases k <;> rfl
theorem cnt_filter : ∀ A : List Ask, (((asksL A).map W.d).filter cntW).map unW = (A.filter cnt4).map askD
  | [] => rfl
  | q :: A => by
    show (((askD q :: asksL A).map W.d).filter cntW).map unW = _
    rw [List.map_cons, List.filter_cons, List.filter_cons, cntW_of]
    cases cnt4 q with
    | true => rw [if_pos rfl, if_pos rfl, List.map_cons, List.map_cons, cnt_filter A]; rfl
    | false => rw [if_neg Bool.false_ne_true, if_neg Bool.false_ne_true, cnt_filter A]
theorem cnt4_is {p : Ask} (h : cnt4 p = true) : ∃ x y, p.2 = .count x y ∧ y ≤ 4 := by
  obtain ⟨n, k⟩ := p
  unfold cnt4 at h
  cases k with
  | pick zs => cases h
  | some zs => cases h
  | count x y => exact ⟨x, y, rfl, by simpa using h⟩
/-- the tests of the law's comprehensions -/
theorem full_e {q : Rnd} (h : AkOk q.2) : (!PyData.eqv (asksD q.2) (.list [])) = fullW (.d (rndD q)) := by
  rw [(asks_nil h).2.2]
  show _ = (!(asksL q.2).isEmpty)
  unfold asksL
  rw [List.isEmpty_map]
def Bk.can (B : Bk) (ins : Bool) : Bool := !(B.asks ++ B.own).isEmpty || (!ins && !(B.rounds.filter full).isEmpty)
theorem can_is {B : Bk} {ins : Bool} (h : B.can ins = true) : B.asks ++ B.own ≠ [] ∨ (B.rnds ins).filter full ≠ [] := by
  unfold Bk.can at h
  rcases Bool.or_eq_true .. |>.mp h with h | h
  · left
    intro e
    rw [e] at h
    cases h
  · right
    obtain ⟨h1, h2⟩ := (Bool.and_eq_true ..).mp h
    cases ins with
    | true => cases h1
    | false =>
      intro e
      rw [show (B.rnds false) = B.rounds from rfl] at e
      rw [e] at h2
      cases h2
theorem Cm.less {S : Sc} {B : Bk} {ps : List Str} {ins : Bool} {deep l : Nat} (m : Cm S B ps ins deep) (e : B.left = l + 1) (d : deep ≤ 4) : Cm1 S { B with left := l } ps ins deep := by
  have h1 := m.cn
  have h2 := m.st
  refine ⟨⟨m.ok, m.ai, m.oi, m.ri, m.io, m.ie, m.nm, ?_, ?_, m.pb, m.dp, m.la, m.lo, m.lr, m.lq, m.lp⟩, ?_, ?_, d⟩
  · show B.cnt + 4 * l ≤ 270
    omega
  · show S.steps + l ≤ 60
    omega
  · show S.steps + l < 60
    omega
  · show B.cnt + 4 * l ≤ 266
    omega
/-- steps drawn, a step drawn -/
def spDs (n : Nat) : SpD := fun ws M Q _ => ∃ (a b pa po : Addr) (c : Nat) (S : Sc) (B : Bk) (ps : List Str) (ins : Bool) (deep : Nat),
  ws = [.ref a, .ref b, .d (.list (ps.map PyData.str)), .d (.bool ins), .d (.int deep)] ∧ Cm S B ps ins deep ∧ deep ≤ 4 ∧ 4 ≤ deep + n ∧ BkAt M a b pa po B ∧ Pot a c M ∧ c + 200 * B.left + 9 ≤ lots ∧
  ∀ ss S' B' po' c' M', FitL S ss S' → Cm S' B' ps ins deep → BkAt M' a b pa po' B' → Mv a b pa po po' M M' → Pot a c' M' → c' + 200 * B'.left ≤ c + 200 * B.left + 9 → Q (.d (.tuple (stDs ss))) M'
def spDs' : Nat → SpD | 0 => spNo | n + 1 => spDs n
def spDe (n : Nat) : SpD := fun ws M Q _ => ∃ (a b pa po : Addr) (c : Nat) (S : Sc) (B : Bk) (ps : List Str) (ins : Bool) (deep : Nat) (way : Int) (can : Bool) (cs : List Ask),
  ws = [.ref a, .ref b, .d (.list (ps.map PyData.str)), .d (.bool ins), .d (.list [.int deep, .int way, .bool can, .list (cs.map askD)])] ∧ Cm1 S B ps ins deep ∧ 4 ≤ deep + n ∧ 0 ≤ way ∧ way < 12 ∧
  (can = true → B.asks ++ B.own ≠ [] ∨ (B.rnds ins).filter full ≠ []) ∧ (∀ p ∈ cs, p ∈ B.asks ∧ ∃ x y, p.2 = .count x y ∧ y ≤ 4) ∧ cs.length ≤ 60 ∧ BkAt M a b pa po B ∧ Pot a c M ∧ c + 200 * B.left + 200 ≤ lots ∧
  ∀ s S' B' po' c' M', FitS S s S' → Cm S' B' ps ins deep → BkAt M' a b pa po' B' → Mv a b pa po po' M M' → Pot a c' M' → c' + 200 * B'.left ≤ c + 200 * B.left + 199 → Q (.d (stD s)) M'
theorem spDs_len {n} : ∀ ws M Q E, spDs n ws M Q E → ws.length = 5 := by rintro _ _ _ _ ⟨a, b, pa, po, c, S, B, ps, ins, deep, rfl, _⟩; rfl
theorem spDe_len {n} : ∀ ws M Q E, spDe n ws M Q E → ws.length = 5 := by rintro _ _ _ _ ⟨a, b, pa, po, c, S, B, ps, ins, deep, way, can, cs, rfl, _⟩; rfl
theorem sds_of {g : Gc} (T : Txt g) (n : Nat) (DE : Df g (8 + 2 * n + 1) "_law_step" ["_law_pot_here", "_law_book", "_law_parts", "_law_inside", "_law_told"] (spDe n)) : Df g (9 + 2 * n + 1) "_law_steps" ["_law_pot_here", "_law_book", "_law_parts", "_law_inside", "_law_deep"] (spDs n) := by
  refine df_of (k := 9 + 2 * n) (i := i_L_steps) T.p_L_steps T.sy sc_L_steps ok_L_steps (fun _ _ _ _ _ _ us hl => match us, hl with | [_, _, _, _, _], _ => rfl) spDs_len (fun Y ws M Q E F hE h => ?_)
  obtain ⟨a, b, pa, po, c, S, B, ps, ins, deep, rfl, hC, hd, hn, hb, hp, hc, h⟩ := h
  refine ⟨_, (ss_cons (s_set (q_lstM a_nil) (g_name F 5)) (ss_cons (s_for F (i_rng1 F 0 T.n_range (a_cons (q_bin o_add q_int (q_call F 2 (d_L_take T) (a_cons (q_var F 0) (a_cons (q_bin o_add q_int (q_bin o_mul q_int (q_callT F 4 c_int T.n_int (by decide +kernel) (a_cons (q_cmp (o_eq F) (q_var F 4) q_int) a_nil)))) a_nil)))) a_nil)) (g_name F 6) (ss_cons (s_set (q_call F 2 (d_L_take T) (a_cons (q_var F 0) (a_cons q_int a_nil))) (g_name F 7)) (ss_cons (s_set (q_bin o_addL (q_ix (q_var F 1) q_int) (q_ix (q_var F 1) q_int)) (g_name F 8)) (ss_cons (s_set (q_or (q_cmp (o_ne F) (q_var F 8) (q_lst a_nil)) (q_one (q_and (q_not (q_var F 3)) (q_one (q_cmp (o_ne F) (q_lc (own := [("_law_ended", 12)]) F ⟨_, ["_law_pot_here", "_law_book", "_law_parts", "_law_inside", "_law_deep", "_law_found", "_law_turn", "_law_way", "_law_asks", "_law_can", "_law_counts", "_law_ask", "_law_ended"], [12], [12], [], [], false, true⟩ (.one 12) ⟨rfl, rfl, ⟨rfl, by decide +kernel, by decide +kernel, by decide +kernel, by decide +kernel⟩, by decide +kernel, by decide +kernel, rfl, rfl⟩ (by decide) (i_lst (q_ix (q_var F 1) q_int)) (fun _ F hw => ⟨(pgN F 12), (ts_one (t_cmp (o_ne F) (q_ix (q_var F 12) q_int) (q_lst a_nil))), (q_var F 12)⟩)) (q_lst a_nil)))))) (g_name F 9)) (ss_cons (s_setlc (own := [("_law_ask", 11)]) F 10 ⟨_, ["_law_pot_here", "_law_book", "_law_parts", "_law_inside", "_law_deep", "_law_found", "_law_turn", "_law_way", "_law_asks", "_law_can", "_law_counts", "_law_ask", "_law_ended"], [11], [11], [], [], false, true⟩ (.one 11) ⟨rfl, rfl, ⟨rfl, by decide +kernel, by decide +kernel, by decide +kernel, by decide +kernel⟩, by decide +kernel, by decide +kernel, rfl, rfl⟩ (by decide) (i_lst (q_ix (q_var F 1) q_int)) (fun _ F hw => ⟨(pgN F 11), (ts_one (QW.pt (w_and (t_cmp (o_eq F) (q_ix (q_ix (q_var F 11) q_int) q_int) q_str) (w_and1 (t_cmp o_le (q_ix (q_ix (q_var F 11) q_int) q_int) q_int))))), (q_var F 11)⟩)) (ss_one (s_if (t_cmp o_gt (q_ix (q_var F 1) q_int) q_int) (ss_cons (s_set (q_bin o_sub (q_ix (q_var F 1) q_int) q_int) (g_sub (q_var F 1) q_int)) (ss_one (s_expr (q_met m_append (q_var F 5) (a_cons (q_call F 3 DE (a_cons (q_var F 0) (a_cons (q_var F 1) (a_cons (q_var F 2) (a_cons (q_var F 3) (a_cons (q_lst (a_cons (q_var F 4) (a_cons (q_var F 7) (a_cons (q_var F 9) (a_cons (q_var F 10) a_nil))))) a_nil)))))) a_nil))))) ss_nil))))))) (ss_one (s_ret (q_callT F 1 c_tup T.n_tuple (by decide +kernel) (a_cons (q_var F 5) a_nil)))))), ?_⟩
  refine ⟨sm0, fun f nf => ?_⟩
  have fa : f ≠ a := (hp.ne nf).symm
  have fb : f ≠ b := by rintro rfl; exact hb.nb nf
  have fpa : f ≠ pa := by rintro rfl; exact hb.np nf
  have fpo : po ≠ f := by rintro rfl; have := hb.o; rw [nf] at this; cases this
  have keep0 : ∀ x u, M x = some u → (mset M f (.lst [])) x = some u := fun x u e => by rw [mset_ne (by rintro rfl; rw [nf] at e; cases e)]; exact e
  have hp0 : Pot a c (mset M f (.lst [])) := hp.of (mset_ne fa.symm)
  have hb0 : BkAt (mset M f (.lst [])) a b pa po B := ⟨hb.ba, hb.aa, hb.oa, hb.ab, hb.ob, hb.ao, keep0 _ _ hb.b, keep0 _ _ hb.a, keep0 _ _ hb.o⟩
  have mk : mulOk 4 (if PyData.eqv (.int (deep : Int)) (.int 0) = true then 1 else 0) := by
    split
    · exact mulOk_of (n := 4) (m := 4) (by decide) (by decide) (by decide) (by decide) (by decide)
    · exact mulOk_of (n := 4) (m := 4) (by decide) (by decide) (by decide) (by decide) (by decide)
  obtain ⟨v, hv⟩ : ∃ v : Int, v = 4 + 4 * (if PyData.eqv (.int (deep : Int)) (.int 0) = true then 1 else 0) := ⟨_, rfl⟩
  have v1 : 1 ≤ v ∧ v ≤ 8 := by
    rw [hv]
    split <;> decide
  refine ⟨rfl, mk, ?_⟩
  refine ⟨a, c, v, by rw [hv], v1.1, nat_lt_of (n := 20) (by rw [show (2 : Nat) ^ 20 = 1048576 by decide]; omega) (by decide), by omega, hp0, fun r M1 r0 r1 p1 o1 => ?_⟩
  have hb1 := hb0.oth o1
  have f1 : M1 f = some (.lst []) := o1 f _ fa mset_same
  have mv1 : Mv a b pa po po M M1 := Mv.oth fun x u n e => o1 x u n (keep0 x u e)
  refine ⟨⟨by omega, by omega⟩, fun j σ M' => ∃ (x6 x7 x8 x9 x10 : Option W) (ss : List Stp) (S1 : Sc) (B1 : Bk) (po1 : Addr) (c1 : Nat), σ = [some (.ref a), some (.ref b), some (.d (.list (ps.map PyData.str))), some (.d (.bool ins)), some (.d (.int deep)), some (.ref f), x6, x7, x8, x9, x10, none, none] ∧ j ≤ 8 ∧
    FitL S ss S1 ∧ Cm S1 B1 ps ins deep ∧ BkAt M' a b pa po1 B1 ∧ Mv a b pa po po1 M M' ∧ po1 ≠ f ∧ Pot a c1 M' ∧ c1 + 200 * B1.left ≤ c + 1 + 200 * B.left + j ∧ M' f = some (.lst ((stDs ss).map W.d)) ∧ ss.length ≤ j, ⟨_, _, _, _, _, [], S, B, po, c + 1, rfl, by omega, ⟨hC.ok, rfl⟩, hC, hb1, mv1, fpo, p1, by omega, f1, Nat.le_refl _⟩, fun _ _ _ _ => trivial, ?_, ?_⟩
  · rintro j w σ M2 hj ⟨x6, x7, x8, x9, x10, ss, S1, B1, po1, c1, rfl, hj8, hfit, hC1, hb2, mv2, fp2, p2, hc2, f2, hl2⟩
    obtain ⟨hj', rfl⟩ := rng_get hj
    have j8 : j < 8 := by omega
    refine ⟨a, c1, 12, rfl, by decide, by decide, by omega, p2, fun way M3 w0 w1 p3 o3 => ?_⟩
    have hb3 := hb2.oth o3
    have f3 := o3 f _ fa f2
    have mv3 : Mv a b pa po po1 M M3 := mv2.trans (Mv.oth o3) (by exact p2.there) hb2.nb hb2.np
    have la := hC1.la
    have lo := hC1.lo
    have ls := hC1.ok.ls
    have lr := hC1.lr
    have akk := hC1.ak
    have rkk := hC1.rk
    refine ⟨_, hb3.b, _, at1, _, hb3.b, _, at3, _, hb3.a, dataQ_of ⟨_, hb3.o, dataQ_of ⟨smL (by rw [ak_len, ak_len]; omega), ?_⟩⟩⟩
    rw [← asks_app]
    have nA := asks_nil akk
    refine sq_cut (fun σ M' => σ = [some (.ref a), some (.ref b), some (.d (.list (ps.map PyData.str))), some (.d (.bool ins)), some (.d (.int deep)), some (.ref f), some (.d (.int (0 + (j : Int)))), some (.d (.int way)), some (.d (asksD (B1.asks ++ B1.own))), x9, x10, none, none] ∧ M3 = M') (fun N hN => hN _ _ ⟨rfl, rfl⟩) ?_
    rintro _ _ ⟨rfl, rfl⟩
    refine sq_cut (fun σ M' => σ = [some (.ref a), some (.ref b), some (.d (.list (ps.map PyData.str))), some (.d (.bool ins)), some (.d (.int deep)), some (.ref f), some (.d (.int (0 + (j : Int)))), some (.d (.int way)), some (.d (asksD (B1.asks ++ B1.own))), some (.d (.bool (B1.can ins))), x10, none, none] ∧ M3 = M') (fun N hN => ?_) ?_
    · have done : ∀ v : Bool, v = B1.can ins → N ([some (.ref a), some (.ref b), some (.d (.list (ps.map PyData.str))), some (.d (.bool ins)), some (.d (.int deep)), some (.ref f), some (.d (.int (0 + (j : Int)))), some (.d (.int way)), some (.d (asksD (B1.asks ++ B1.own))), some (.d (.bool v)), x10, none, none]) M3 := fun v e => by rw [e]; exact hN _ _ ⟨rfl, rfl⟩
      have ds : (B1.asks ++ B1.own).isEmpty = (B1.asks ++ B1.own).isEmpty := rfl
      refine ⟨sm0, nA.1, ?_⟩
      cases e : (B1.asks ++ B1.own).isEmpty with
      | false =>
        refine bqc true (by rw [nA.2.2, e]; rfl) (iteT (done true ?_))
        unfold Bk.can
        rw [e]
        rfl
      | true =>
        refine bqc false (by rw [nA.2.2, e]; rfl) (iteF ?_)
        have ec : B1.can ins = (!ins && !(B1.rounds.filter full).isEmpty) := by
          unfold Bk.can
          rw [e]
          rfl
        dsimp only [tAnd2, tNot2, Dl.tVar, slotQ]
        cases ins with
        | true =>
          refine bqc true rfl ?_
          refine bqc false rfl (iteF (done false ?_))
          rw [ec]
          rfl
        | false =>
          refine bqc false rfl ?_
          refine bqc true rfl (iteT ?_)
          refine ⟨_, hb3.b, _, at2, ?_⟩
          refine lcPe (T := .one 12) (kc := noKc) (M1 := M3) fullW unW ((B1.rounds.filter full).map rndD) (full_filter B1.rounds) (by have := rkk.1; simp; omega) (fun _ _ _ => trivial) ?_ ?_
          · intro w hw
            obtain ⟨x, hx, rfl⟩ := List.mem_map.mp hw
            obtain ⟨q, hq, rfl⟩ := List.mem_map.mp hx
            obtain ⟨z1, z2, z3⟩ := asks_nil (rkk.2 q hq).2.1
            intro M2 k2
            refine ⟨fun R' r => ⟨_, at1, sm0, z1, ?_⟩, fun _ R' r => r⟩
            rw [← full_e (rkk.2 q hq).2.1] at r
            exact bq r
          · have layF : PyData.canLayAll0 ((B1.rounds.filter full).map rndD) = true := all_lay fun q hq => by
              have hq := (List.mem_filter.mp hq).1
              exact rnd_lay ⟨(rkk.2 q hq).1, (rkk.2 q hq).2.1⟩
            obtain ⟨y1, y2, y3⟩ := ne_nil layF
            refine ⟨sm0, y1, done _ ?_⟩
            rw [y3, ec]
            show (!((B1.rounds.filter full).map rndD).isEmpty) = (!(B1.rounds.filter full).isEmpty)
            rw [List.isEmpty_map]
    rintro _ _ ⟨rfl, rfl⟩
    refine ⟨_, hb3.b, _, at1, _, hb3.a, ?_⟩
    refine lcPe (T := .one 11) (kc := fun M => M pa = some (.lst ((asksL B1.asks).map W.d))) (M1 := M3) cntW unW ((B1.asks.filter cnt4).map askD) (cnt_filter B1.asks) (by simp [ak_len]; omega) (fun D acc nD => by show mset M3 D _ pa = _; rw [mset_ne (by rintro rfl; rw [hb3.a] at nD; cases nD)]; exact hb3.a) ?_ ?_
    · intro w hw
      obtain ⟨x, hx, rfl⟩ := List.mem_map.mp hw
      obtain ⟨⟨nm, k⟩, hp', rfl⟩ := List.mem_map.mp hx
      intro M2' k2
      refine ⟨fun R' r => ?_, fun _ R' r => r⟩
      cases k with
      | pick zs =>
        refine ⟨_, at1, _, at0, rfl, ?_⟩
        refine bqc false (by decide +kernel) ?_
        exact iteF r
      | some zs =>
        refine ⟨_, at1, _, at0, rfl, ?_⟩
        refine bqc false (by decide +kernel) ?_
        exact iteF r
      | count x y =>
        refine ⟨_, at1, _, at0, rfl, ?_⟩
        refine bqc true (by decide +kernel) ?_
        refine iteT ?_
        exact ⟨_, at1, _, at2, bq r⟩
    refine ⟨_, hb3.b, _, at4, ?_⟩
    refine ifD (fun hl0 => ?_) (fun hl0 => ?_)
    · have hl0 : (0 : Int) < (B1.left : Int) := hl0
      obtain ⟨l, hl⟩ : ∃ l, B1.left = l + 1 := ⟨B1.left - 1, by omega⟩
      have el : ((B1.left : Int) - 1) = (l : Int) := by omega
      refine ⟨_, hb3.b, _, at4, _, hb3.b, 4, rfl, ?_⟩
      obtain ⟨M4, hM4⟩ : ∃ M4, M4 = mset M3 b (.lst (bkW pa po1 { B1 with left := l })) := ⟨_, rfl⟩
      have e4 : mset M3 b (.lst ((bkW pa po1 B1).set 4 (.d (.int ((B1.left : Int) - 1))))) = M4 := by rw [hM4, el]; rfl
      rw [e4]
      have hb4 : BkAt M4 a b pa po1 { B1 with left := l } := by
        refine ⟨hb3.ba, hb3.aa, hb3.oa, hb3.ab, hb3.ob, hb3.ao, by rw [hM4, mset_same], ?_, ?_⟩
        · rw [hM4, mset_ne hb3.ab]; exact hb3.a
        · rw [hM4, mset_ne hb3.ob]; exact hb3.o
      have p4 : Pot a (c1 + 1) M4 := by rw [hM4]; exact p3.of (mset_ne hb3.ba.symm)
      have f4 : M4 f = some (.lst ((stDs ss).map W.d)) := by rw [hM4, mset_ne fb]; exact f3
      have mv34 : Mv a b pa po1 po1 M3 M4 := ⟨fun x o _ nb _ _ e => by rw [hM4, mset_ne nb]; exact e, .inl rfl⟩
      have mv4 : Mv a b pa po po1 M M4 := mv3.trans mv34 (by exact p3.there) hb3.nb hb3.np
      have c1' := hC1.less hl hd
      refine ⟨⟨_, f4⟩, sm4, ?_⟩
      refine ⟨a, b, pa, po1, c1 + 1, S1, { B1 with left := l }, ps, ins, deep, way, B1.can ins, B1.asks.filter cnt4, rfl, c1', hn, w0, w1, fun e => can_is e, ?_, ?_, hb4, p4, ?_, ?_⟩
      · intro p hp'
        obtain ⟨h1, h2⟩ := List.mem_filter.mp hp'
        exact ⟨h1, cnt4_is h2⟩
      · exact Nat.le_trans (List.length_filter_le _ _) (by omega)
      · show c1 + 1 + 200 * l + 200 ≤ lots
        omega
      · intro s S' B' po' c' M' hs hC' hb' mv' p' hc'
        have hc' : c' + 200 * B'.left ≤ c1 + 1 + 200 * l + 199 := hc'
        have fpo1 : f ≠ po1 := fp2.symm
        have f5 : M' f = some (.lst ((stDs ss).map W.d)) := mv'.1 f _ fa fb fpa fpo1 f4
        have fp5 : po' ≠ f := by
          rcases mv'.2 with e | e
          · rw [e]; exact fp2
          · rintro rfl; rw [f4] at e; cases e
        have mv5 : Mv a b pa po po' M M' := mv4.trans mv' (by exact p4.there) hb4.nb hb4.np
        refine ⟨_, f5, by rw [List.length_map, stDs_map, List.length_map, sizeLine_eq]; omega, ?_⟩
        refine ⟨_, _, _, _, _, ss ++ [s], S', B', po', c', rfl, by omega, fitL_snoc hfit hs, hC', ?_, ?_, fp5, p'.of (mset_ne fa.symm), by omega, ?_, ?_⟩
        · exact ⟨hb'.ba, hb'.aa, hb'.oa, hb'.ab, hb'.ob, hb'.ao, by rw [mset_ne fb.symm]; exact hb'.b, by rw [mset_ne fpa.symm]; exact hb'.a, by rw [mset_ne fp5]; exact hb'.o⟩
        · refine ⟨fun x o xa xb xp xo e => ?_, mv5.2⟩
          have nx : x ≠ f := by rintro rfl; rw [nf] at e; cases e
          rw [mset_ne nx]
          exact mv5.1 x o xa xb xp xo e
        · rw [mset_same, stDs_map, stDs_map]
          simp
        · simp
          omega
    · exact ⟨_, _, _, _, _, ss, S1, B1, po1, c1 + 1, rfl, by omega, hfit, hC1, hb3, mv3, fp2, p3, by omega, f3, by omega⟩
  · rintro σ M2 ⟨x6, x7, x8, x9, x10, ss, S1, B1, po1, c1, rfl, hj8, hfit, hC1, hb2, mv2, fp2, p2, hc2, f2, hl2⟩
    rw [rng_len] at hc2
    refine ⟨_, f2, dataQ_of ?_⟩
    exact h ss S1 B1 po1 c1 M2 hfit hC1 hb2 mv2 p2 (by omega)
end Ms
set_option Elab.async false
set_option linter.all false
set_option maxRecDepth 100000
/-! a, b, .. = a list -/
namespace Dl
open PySem PySem.Spec PyProof.Rows L2
section
variable {g : Gc} {i : Si} {k : Nat} {Y : Dx}
def gLstD (n : Nat) (t : TGsd) : TGd := fun w σ M Q => match w with
  | .d (.list ds) => ds.length = n ∧ t (ds.map W.d) σ M Q
  | .ref p => ∃ ws, M p = some (.lst ws) ∧ ws.length = n ∧ t ws σ M Q
  | _ => False
theorem g_lst (F : Fm g i k Y) {es : List Expr} {kk : Nat} {t : TGsd} {n : Nat} {pos : Pos} (h : QGs Y es t) (hn : (assignEach es Y.X.env).length = n := by rfl) (hst : (assignEach es Y.X.env).findIdx? (·.1) = none := by rfl) (hc : i.hot = false := by rfl) : QG Y (.Tuple es kk pos) (gLstD n t) := by
  refine ⟨fun s H σ M v w Q S r hq => ?_⟩
  unfold gLstD at hq
  split at hq
  · obtain ⟨p, xs, rfl, h1, h2⟩ := r.lst
    exact semG_of (pg_lst (F.calm hc) pgs_sem hn hst) ⟨p, xs, rfl, h1.sq, by rw [h2.length]; exact hq.1, h.run s H σ M xs _ Q S h2.wv hq.2⟩
  · obtain ⟨ws, hm, hl, hq⟩ := hq
    obtain rfl := (show v = _ from r)
    obtain ⟨xs, h1, h2⟩ := S.d _ _ hm
    exact semG_of (pg_lst (F.calm hc) pgs_sem hn hst) ⟨_, xs, rfl, .inl (.inl h1), by rw [Paired.length h2]; exact hl, h.run s H σ M xs _ Q S h2 hq⟩
  · exact hq.elim
end
/-! ### what a law's end tells of classes -/
theorem plm_of {g : Gc} {x : Str} {C f : Addr} {m q : Str} {st : Stmt} {fd : FuncData} (h : g.mg x = some (.ref C)) (F : Fun g.K m q st f fd) (k : Meth g.K C m f) : PlM g (clsA g x) m q st := by
  rw [clsA_of h]
  exact ⟨f, fd, F, k⟩
theorem pli_of {g : Gc} {x : Str} {C f : Addr} {q : Str} {st : Stmt} {fd : FuncData} (h : g.mg x = some (.ref C)) (F : Fun g.K "__init__" q st f fd) (k : L2.Mk g.K C f) : PlI g x q st := by
  have e := clsA_of h
  exact ⟨f, fd, F, by rw [e]; exact k, by rw [e]; exact h⟩
theorem cls_of {g : Gc} {x : Str} {C : Addr} (h : g.mg x = some (.ref C)) (k : Cls g.K C) : Cls g.K (clsA g x) := by rw [clsA_of h]; exact k
theorem noat_of {g : Gc} {x f : Str} {C : Addr} (h : g.mg x = some (.ref C)) (k : NoAttr g.K C f) : NoAttr g.K (clsA g x) f := by rw [clsA_of h]; exact k
end Dl
set_option Elab.async false
set_option linter.all false
set_option maxRecDepth 100000
namespace Ms
open PySem PySem.Spec PyProof.Rows L2 Dl
theorem sde_of {g : Gc} (T : Txt g) (n : Nat) (m : Nat) (lm : m ≤ 8 + 2 * n) (DS : Df g m "_law_steps" ["_law_pot_here", "_law_book", "_law_parts", "_law_inside", "_law_deep"] (spDs' n)) : Df g (8 + 2 * n + 1) "_law_step" ["_law_pot_here", "_law_book", "_law_parts", "_law_inside", "_law_told"] (spDe n) := by
  refine df_of (k := 8 + 2 * n) (i := i_L_step) T.p_L_step T.sy sc_L_step ok_L_step (fun _ _ _ _ _ _ us hl => match us, hl with | [_, _, _, _, _], _ => rfl) spDe_len (fun Y ws M Q E F hE h => ?_)
  obtain ⟨a, b, pa, po, c, S, B, ps, ins, deep, way, can, cs, rfl, hC, hn, w0, w12, hcan, hcs, lcs, hb, hp, hc, h⟩ := h
  refine ⟨_, (ss_cons (s_set (q_var F 4) (g_lst F (gs_cons (g_name F 5) (gs_cons (g_name F 6) (gs_cons (g_name F 7) (gs_cons (g_name F 8) gs_nil)))))) (ss_cons (s_set (q_ix (q_lst (a_cons (q_lst a_nil) (a_cons (q_ix (q_var F 1) q_int) a_nil))) (q_callT F 0 c_int T.n_int (by decide +kernel) (a_cons (q_not (q_var F 3)) a_nil))) (g_name F 9)) (ss_cons (s_if (QW.pt (w_and (t_cmp (o_in F) (q_var F 6) (q_tup (a_cons q_int (a_cons q_int a_nil)))) (w_and (t_val (q_var F 7)) (w_and1 (t_cmp o_lt (q_var F 5) q_int))))) (ss_cons (s_set (q_call F 1 (d_L_condition T 3) (a_cons (q_var F 0) (a_cons (q_bin o_addL (q_ix (q_var F 1) q_int) (q_ix (q_var F 1) q_int)) (a_cons (q_var F 9) (a_cons q_int a_nil))))) (g_name F 10)) (ss_cons (s_set (q_call F 2 DS (a_cons (q_var F 0) (a_cons (q_var F 1) (a_cons (q_var F 2) (a_cons (q_var F 3) (a_cons (q_bin o_add (q_var F 5) q_int) a_nil)))))) (g_name F 11)) (ss_cons (s_set (q_tup a_nil) (g_name F 12)) (ss_cons (s_if (t_cmp (o_eq F) (q_call F 5 (d_L_take T) (a_cons (q_var F 0) (a_cons q_int a_nil))) q_int) (ss_one (s_set (q_call F 2 DS (a_cons (q_var F 0) (a_cons (q_var F 1) (a_cons (q_var F 2) (a_cons (q_var F 3) (a_cons (q_bin o_add (q_var F 5) q_int) a_nil)))))) (g_name F 12))) ss_nil) (ss_one (s_ret (q_tup (a_cons q_str (a_cons (q_var F 10) (a_cons (q_var F 11) (a_cons (q_var F 12) a_nil))))))))))) ss_nil) (ss_cons (s_if (QW.pt (w_and (t_cmp (o_eq F) (q_var F 6) q_int) (w_and1 (t_cmp o_lt (q_var F 5) q_int)))) (ss_cons (s_set (q_call F 3 (d_L_name T) (a_cons (q_var F 0) (a_cons (q_var F 1) a_nil))) (g_name F 13)) (ss_one (s_ret (q_tup (a_cons q_str (a_cons (q_var F 13) (a_cons (q_call F 2 DS (a_cons (q_var F 0) (a_cons (q_var F 1) (a_cons (q_bin o_add (q_var F 2) (q_lst (a_cons (q_var F 13) a_nil))) (a_cons (q_var F 3) (a_cons (q_bin o_add (q_var F 5) q_int) a_nil)))))) a_nil))))))) ss_nil) (ss_cons (s_if (QW.pt (w_and (t_cmp (o_eq F) (q_var F 6) q_int) (w_and (t_val (q_var F 7)) (w_and1 (t_cmp (o_ne F) (q_var F 2) (q_lst a_nil)))))) (ss_cons (s_set (q_ix (q_var F 2) (q_call F 5 (d_L_take T) (a_cons (q_var F 0) (a_cons (q_callB F 6 c_len T.n_len (by decide +kernel) (a_cons (q_var F 2) a_nil)) a_nil)))) (g_name F 13)) (ss_one (s_ret (q_tup (a_cons q_str (a_cons (q_var F 13) (a_cons (q_call F 1 (d_L_condition T 3) (a_cons (q_var F 0) (a_cons (q_bin o_addL (q_ix (q_var F 1) q_int) (q_ix (q_var F 1) q_int)) (a_cons (q_var F 9) (a_cons q_int a_nil))))) a_nil))))))) ss_nil) (ss_cons (s_if (QW.pt (w_and (t_cmp (o_eq F) (q_var F 6) q_int) (w_and (t_cmp (o_ne F) (q_var F 8) (q_lst a_nil)) (w_and (t_not (t_val (q_var F 3))) (w_and1 (t_cmp o_lt (q_var F 5) q_int)))))) (ss_cons (s_set (q_call F 3 (d_L_name T) (a_cons (q_var F 0) (a_cons (q_var F 1) a_nil))) (g_name F 13)) (ss_cons (s_set (q_call F 2 DS (a_cons (q_var F 0) (a_cons (q_var F 1) (a_cons (q_var F 2) (a_cons q_bool (a_cons (q_bin o_add (q_var F 5) q_int) a_nil)))))) (g_name F 14)) (ss_cons (s_set (q_bin o_add (q_ix (q_var F 1) q_int) (q_lst (a_cons (q_tup (a_cons (q_frz (q_var F 13)) (a_cons (q_frz (q_ix (q_var F 1) q_int)) a_nil))) a_nil))) (g_sub (q_var F 1) q_int)) (ss_cons (s_set (q_lstM a_nil) (g_sub (q_var F 1) q_int)) (ss_one (s_ret (q_tup (a_cons q_str (a_cons (q_var F 13) (a_cons (q_ix (q_ix (q_var F 8) (q_call F 5 (d_L_take T) (a_cons (q_var F 0) (a_cons (q_callB F 6 c_len T.n_len (by decide +kernel) (a_cons (q_var F 8) a_nil)) a_nil)))) q_int) (a_cons (q_var F 14) a_nil))))))))))) ss_nil) (ss_cons (s_if (QW.pt (w_and (t_cmp o_gt (q_var F 6) q_int) (w_and1 (t_val (q_var F 7))))) (ss_one (s_ret (q_tup (a_cons (q_ix (q_lst (a_cons q_str (a_cons q_str a_nil))) (q_bin o_sub (q_var F 6) q_int)) (a_cons (q_call F 1 (d_L_condition T 3) (a_cons (q_var F 0) (a_cons (q_bin o_addL (q_ix (q_var F 1) q_int) (q_ix (q_var F 1) q_int)) (a_cons (q_var F 9) (a_cons q_int a_nil))))) a_nil))))) ss_nil) (ss_cons (s_set (q_tup (a_cons (q_call F 3 (d_L_name T) (a_cons (q_var F 0) (a_cons (q_var F 1) a_nil))) (a_cons (q_call F 4 (d_L_kind T) (a_cons (q_var F 0) (a_cons (q_and (q_cmp (o_eq F) (q_var F 6) q_int) (q_one (q_not (q_var F 3)))) a_nil))) a_nil))) (g_name F 15)) (ss_cons (s_expr (q_met m_append (q_ix (q_var F 1) (q_bin o_add q_int (q_bin o_mul q_int (q_callT F 0 c_int T.n_int (by decide +kernel) (a_cons (q_var F 3) a_nil))))) (a_cons (q_var F 15) a_nil))) (ss_one (s_ret (q_bin o_add (q_tup (a_cons q_str a_nil)) (q_var F 15))))))))))))), ?_⟩
  have la := hC.m.la
  have lo := hC.m.lo
  have ls := hC.m.ok.ls
  have lr := hC.m.lr
  have akk := hC.m.ak
  have rkk := hC.m.rk
  have rks := hC.m.rks
  have c156 : cC 2 = 156 := rfl
  have smA : small ((asksL B.asks).length + (asksL B.own).length) := smL (by rw [ak_len, ak_len]; omega)
  have lA : (B.asks ++ B.own).length + 500 * 3 ≤ 5000 := by rw [List.length_append]; omega
  have hcan3 : can = true → B.asks ++ B.own ≠ [] ∨ (2 ≤ 3 ∧ (B.rnds ins).filter full ≠ []) := fun e => (hcan e).imp_right fun x => ⟨by decide, x⟩
  have hcan2 : can = true → B.asks ++ B.own ≠ [] ∨ (2 ≤ 2 ∧ (B.rnds ins).filter full ≠ []) := fun e => (hcan e).imp_right fun x => ⟨by decide, x⟩
  refine sq_cut (fun σ M' => σ = [some (.ref a), some (.ref b), some (.d (.list (ps.map PyData.str))), some (.d (.bool ins)), some (.d (.list [.int deep, .int way, .bool can, .list (cs.map askD)])), some (.d (.int deep)), some (.d (.int way)), some (.d (.bool can)), some (.d (.list (cs.map askD))), none, none, none, none, none, none, none] ∧ M = M') (fun N hN => ⟨rfl, hN _ _ ⟨rfl, rfl⟩⟩) ?_
  rintro _ _ ⟨rfl, rfl⟩
  refine sq_cut (fun σ M' => σ = [some (.ref a), some (.ref b), some (.d (.list (ps.map PyData.str))), some (.d (.bool ins)), some (.d (.list [.int deep, .int way, .bool can, .list (cs.map askD)])), some (.d (.int deep)), some (.d (.int way)), some (.d (.bool can)), some (.d (.list (cs.map askD))), some (.d (rndsD (B.rnds ins))), none, none, none, none, none, none] ∧ M = M') (fun N hN => ?_) ?_
  · have done : ∀ x, x = rndsD (B.rnds ins) → N ([some (.ref a), some (.ref b), some (.d (.list (ps.map PyData.str))), some (.d (.bool ins)), some (.d (.list [.int deep, .int way, .bool can, .list (cs.map askD)])), some (.d (.int deep)), some (.d (.int way)), some (.d (.bool can)), some (.d (.list (cs.map askD))), some (.d x), none, none, none, none, none, none]) M := fun x e => by rw [e]; exact hN _ _ ⟨rfl, rfl⟩
    refine ⟨sm0, _, hb.b, _, at2, sm2, ?_⟩
    cases ins with
    | true =>
      dsimp only [tCal, tConsA, tNot2, Dl.tVar, slotQ, tNilA]
      refine bqc true rfl ?_
      exact ⟨_, at0, done _ rfl⟩
    | false =>
      dsimp only [tCal, tConsA, tNot2, Dl.tVar, slotQ, tNilA]
      refine bqc false rfl ?_
      exact ⟨_, at1, done _ rfl⟩
  rintro _ _ ⟨rfl, rfl⟩
  -- if
  refine sq_cut (fun σ M' => σ = [some (.ref a), some (.ref b), some (.d (.list (ps.map PyData.str))), some (.d (.bool ins)), some (.d (.list [.int deep, .int way, .bool can, .list (cs.map askD)])), some (.d (.int deep)), some (.d (.int way)), some (.d (.bool can)), some (.d (.list (cs.map askD))), some (.d (rndsD (B.rnds ins))), none, none, none, none, none, none] ∧ M = M') (fun N hN => ?_) ?_
  · have io : inOk (.int way) [.int 5, .int 6] = true := by simp [inOk, PyData.canLayAll0, PyData.canLay0, PyData.depth, PyData.depthAll]
    refine ⟨sm2, io, ?_⟩
    cases e1 : inD (.int way) [.int 5, .int 6] with
    | false =>
      refine bqc false (by first | exact e1 | rfl) ?_
      refine iteF ?_
      exact hN _ _ ⟨rfl, rfl⟩
    | true =>
      refine bqc true (by first | exact e1 | rfl) ?_
      refine iteT ?_
      dsimp only [Dl.tAndT, tTst, Dl.tVar, slotQ]
      cases can with
      | false =>
        refine bqc false rfl ?_
        refine iteF ?_
        refine iteF ?_
        exact hN _ _ ⟨rfl, rfl⟩
      | true =>
        refine bqc true rfl ?_
        refine iteT ?_
        refine ifD (fun hd => ?_) (fun _ => hN _ _ ⟨rfl, rfl⟩)
        have hd : (deep : Int) < 4 := hd
        obtain ⟨n, rfl⟩ : ∃ n', n = n' + 1 := ⟨n - 1, by omega⟩
        refine ⟨_, hb.b, _, at1, _, hb.b, _, at3, _, hb.a, dataQ_of ⟨_, hb.o, dataQ_of ⟨smA, ?_⟩⟩⟩
        rw [← asks_app]
        refine ⟨a, c, B.asks ++ B.own, B.rnds ins, 3, rfl, by decide, by decide, akk, rks, lA, hcan3 rfl, (show c + cC 2 ≤ lots by rw [c156]; omega), hp, fun x M1 hx p1 o1 => ?_⟩
        have hb1 := hb.oth o1
        have mv1 : Mv a b pa po po M M1 := Mv.oth o1
        have kn := hC.m.knows hx (by decide)
        have ed : ((deep : Int) + 1) = ((deep + 1 : Nat) : Int) := by omega
        rw [c156] at p1
        refine ⟨a, b, pa, po, c + 156, S.tick.push tIf tNo, B, ps, ins, deep + 1, by rw [← ed], hC.iff, by omega, by omega, hb1, p1, by omega, fun ss1 S1 B1 po1 c1 M2 f1 C1 hb2 mv2 p2 hc2 => ?_⟩
        have ok1 := C1.ok
        have bg1 : S1.begun = S.begun ++ [(tIf, tNo)] := (fitL_ok ss1 f1).2.1
        have mvA : Mv a b pa po po1 M M2 := mv1.trans mv2 p1.there hb1.nb hb1.np
        refine ⟨sm0, a, _, 2, rfl, by decide, by decide, by omega, p2, fun r M3 r0 r1 p3 o3 => ⟨rfl, ?_⟩⟩
        have hb3 := hb2.oth o3
        have mvB : Mv a b pa po po1 M M3 := mvA.trans (Mv.oth o3) p2.there hb2.nb hb2.np
        have fin : ∀ ss2 S2 B2 po2 c2 M4, FitL S1 ss2 S2 → Cm S2 B2 ps ins (deep + 1) → BkAt M4 a b pa po2 B2 → Mv a b pa po po2 M M4 → Pot a c2 M4 → c2 + 200 * B2.left ≤ c1 + 1 + 200 * B1.left + 9 → Q (.d (stD (.iff x ss1 ss2))) M4 := by
          intro ss2 S2 B2 po2 c2 M4 f2 C2 hb4 mv4 p4 hc4
          have bg2 : S2.begun = S.begun ++ [(tIf, tNo)] := (fitL_ok ss2 f2).2.1.trans bg1
          exact h (.iff x ss1 ss2) S2.pop B2 po2 c2 M4 ⟨hC.can, kn, S1, S2, f1, f2, rfl⟩ (C2.pop bg2 (by decide +kernel) hC.m.pb hC.m.lp) hb4 mv4 p4 (by omega)
        cases e2 : PyData.eqv (.int r) (.int 0) with
        | true =>
          refine bqc true (by first | exact e2 | rfl) ?_
          refine iteT ?_
          refine ⟨a, b, pa, po1, c1 + 1, S1, B1, ps, ins, deep + 1, by rw [← ed], C1, by omega, by omega, hb3, p3, by omega, fun ss2 S2 B2 po2 c2 M4 f2 C2 hb4 mv4 p4 hc4 => ?_⟩
          refine ⟨sm4, ?_⟩
          exact fin ss2 S2 B2 po2 c2 M4 f2 C2 hb4 (mvB.trans mv4 p3.there hb3.nb hb3.np) p4 hc4
        | false =>
          refine bqc false (by first | exact e2 | rfl) ?_
          refine iteF ?_
          refine ⟨sm4, ?_⟩
          exact fin [] S1 B1 po1 (c1 + 1) M3 ⟨ok1, rfl⟩ C1 hb3 mvB p3 (by omega)
  rintro _ _ ⟨rfl, rfl⟩
  -- part
  refine sq_cut (fun σ M' => σ = [some (.ref a), some (.ref b), some (.d (.list (ps.map PyData.str))), some (.d (.bool ins)), some (.d (.list [.int deep, .int way, .bool can, .list (cs.map askD)])), some (.d (.int deep)), some (.d (.int way)), some (.d (.bool can)), some (.d (.list (cs.map askD))), some (.d (rndsD (B.rnds ins))), none, none, none, none, none, none] ∧ M = M') (fun N hN => ?_) ?_
  · refine ⟨rfl, ?_⟩
    cases e1 : PyData.eqv (.int way) (.int 7) with
    | false =>
      refine bqc false (by first | exact e1 | rfl) ?_
      refine iteF ?_
      exact hN _ _ ⟨rfl, rfl⟩
    | true =>
      refine bqc true (by first | exact e1 | rfl) ?_
      refine iteT ?_
      refine ifD (fun hd => ?_) (fun _ => hN _ _ ⟨rfl, rfl⟩)
      have hd : (deep : Int) < 4 := hd
      obtain ⟨n, rfl⟩ : ∃ n', n = n' + 1 := ⟨n - 1, by omega⟩
      have hcn := hC.c
      refine ⟨a, b, c, B.cnt, [.ref pa, .d (rndsD B.rounds), .ref po, .d (.int B.left)], rfl, hb.ba.symm, hb.b, by omega, (show 4 ≤ 10 by decide), by omega, hp, fun z c' M1 c0 c1 hz p1 eb o1 => ?_⟩
      have hb1 : BkAt M1 a b pa po { B with cnt := c' } := hb.oth2 o1 eb
      have mv1 : Mv a b pa po po M M1 := Mv.oth2 o1
      have ed : ((deep : Int) + 1) = ((deep + 1 : Nat) : Int) := by omega
      have ep : (ps.map PyData.str ++ [PyData.str z]) = (ps ++ [z]).map PyData.str := by rw [List.map_append]; rfl
      have lp := hC.m.lp
      refine ⟨sm1, smL (by simp; omega), ?_⟩
      refine ⟨a, b, pa, po, c + 8, (S.tick.name z).push tPart z, { B with cnt := c' }, ps ++ [z], ins, deep + 1, by rw [← ed, ← ep], hC.part c0 c1 hz, by omega, by omega, hb1, p1, by show c + 8 + 200 * B.left + 9 ≤ lots; omega, fun ss1 S1 B1 po1 c2 M2 f1 C1 hb2 mv2 p2 hc2 => ?_⟩
      have hc2 : c2 + 200 * B1.left ≤ c + 8 + 200 * B.left + 9 := hc2
      have bg1 : S1.begun = S.begun ++ [(tPart, z)] := (fitL_ok ss1 f1).2.1
      refine ⟨sm3, ?_⟩
      exact h (.part z ss1) S1.pop B1 po1 c2 M2 ⟨hC.can, hC.new c0 c1 hz, S1, f1, rfl⟩ (C1.pop bg1 (by decide +kernel) hC.m.pb hC.m.lp) hb2 (mv1.trans mv2 p1.there hb1.nb hb1.np) p2 (by omega)
  rintro _ _ ⟨rfl, rfl⟩
  -- leave
  refine sq_cut (fun σ M' => σ = [some (.ref a), some (.ref b), some (.d (.list (ps.map PyData.str))), some (.d (.bool ins)), some (.d (.list [.int deep, .int way, .bool can, .list (cs.map askD)])), some (.d (.int deep)), some (.d (.int way)), some (.d (.bool can)), some (.d (.list (cs.map askD))), some (.d (rndsD (B.rnds ins))), none, none, none, none, none, none] ∧ M = M') (fun N hN => ?_) ?_
  · refine ⟨rfl, ?_⟩
    cases e1 : PyData.eqv (.int way) (.int 8) with
    | false =>
      refine bqc false (by first | exact e1 | rfl) ?_
      refine iteF ?_
      exact hN _ _ ⟨rfl, rfl⟩
    | true =>
      refine bqc true (by first | exact e1 | rfl) ?_
      refine iteT ?_
      dsimp only [Dl.tAndT, tTst, Dl.tVar, slotQ]
      cases can with
      | false =>
        refine bqc false rfl ?_
        refine iteF ?_
        refine iteF ?_
        exact hN _ _ ⟨rfl, rfl⟩
      | true =>
        refine bqc true rfl ?_
        refine iteT ?_
        have nps : ∀ z ∈ ps, PyData.strOk z = true := fun z hz => name_sok (hC.m.pb z hz).1
        obtain ⟨y1, y2, y3⟩ := ne_nil (strs_lay nps).1
        refine ⟨sm0, y1, ?_⟩
        cases eps : ps with
        | nil =>
          refine bqc false (by rw [eps] at y3; rw [y3]; rfl) ?_
          refine iteF ?_
          rw [eps] at hN
          exact hN _ _ ⟨rfl, rfl⟩
        | cons q0 qs =>
          refine bqc true (by rw [eps] at y3; rw [y3]; rfl) ?_
          refine iteT ?_
          have lp := hC.m.lp
          have hd4 := hC.d
          rw [← eps]
          have ln : (ps.map PyData.str).length = ps.length := by simp
          refine ⟨a, c, _, rfl, by rw [ln, eps]; simp; omega, by rw [ln]; exact nat_lt_of (n := 20) (by rw [show (2 : Nat) ^ 20 = 1048576 by decide]; omega) (by decide), by omega, hp, fun r M1 r0 r1 p1 o1 => ?_⟩
          rw [ln] at r1
          obtain ⟨z, hz, e⟩ := pick_get (f := PyData.str) (l := ps) r0 r1
          have hb1 := hb.oth o1
          refine ⟨_, e, ?_⟩
          refine ⟨_, hb1.b, _, at1, _, hb1.b, _, at3, _, hb1.a, dataQ_of ⟨_, hb1.o, dataQ_of ⟨smA, ?_⟩⟩⟩
          rw [← asks_app]
          refine ⟨a, c + 1, B.asks ++ B.own, B.rnds ins, 2, rfl, by decide, by decide, akk, rks, by omega, hcan2 rfl, (show c + 1 + cC 2 ≤ lots by rw [c156]; omega), p1, fun x M2 hx p2 o2 => ?_⟩
          have kn := hC.m.knows hx (by decide)
          rw [c156] at p2
          refine ⟨sm3, ?_⟩
          exact h (.leave z x) S.tick B po (c + 1 + 156) M2 ⟨hC.can, (hC.m.pb z hz).1, (hC.m.pb z hz).2, kn, rfl⟩ hC.tick (hb1.oth o2) (Mv.oth (o1.trans o2)) p2 (by omega)
  rintro _ _ ⟨rfl, rfl⟩
  -- each
  refine sq_cut (fun σ M' => σ = [some (.ref a), some (.ref b), some (.d (.list (ps.map PyData.str))), some (.d (.bool ins)), some (.d (.list [.int deep, .int way, .bool can, .list (cs.map askD)])), some (.d (.int deep)), some (.d (.int way)), some (.d (.bool can)), some (.d (.list (cs.map askD))), some (.d (rndsD (B.rnds ins))), none, none, none, none, none, none] ∧ M = M') (fun N hN => ?_) ?_
  · refine ⟨rfl, ?_⟩
    cases e1 : PyData.eqv (.int way) (.int 9) with
    | false =>
      refine bqc false (by first | exact e1 | rfl) ?_
      refine iteF ?_
      exact hN _ _ ⟨rfl, rfl⟩
    | true =>
      refine bqc true (by first | exact e1 | rfl) ?_
      refine iteT ?_
      have ncs : AkOk cs := fun p hp' => ⟨(hC.m.ai p (hcs p hp').1).1, (hC.m.ai p (hcs p hp').1).2.1⟩
      obtain ⟨y1, y2, y3⟩ := asks_nil ncs
      refine ⟨sm0, y1, ?_⟩
      cases ecs : cs with
      | nil =>
        refine bqc false (by rw [ecs] at y3; exact congrArg (!·) y3) ?_
        refine iteF ?_
        rw [ecs] at hN
        exact hN _ _ ⟨rfl, rfl⟩
      | cons q0 qs =>
        refine bqc true (by rw [ecs] at y3; exact congrArg (!·) y3) ?_
        refine iteT ?_
        rw [← ecs]
        have csn : cs ≠ [] := by rw [ecs]; simp
        dsimp only [Dl.tAndT, Dl.tNotT, tTst, Dl.tVar, slotQ]
        cases ins with
        | true =>
          refine bqc true rfl ?_
          refine iteF ?_
          refine iteF ?_
          exact hN _ _ ⟨rfl, rfl⟩
        | false =>
          refine bqc false rfl ?_
          refine iteT ?_
          refine ifD (fun hd => ?_) (fun _ => hN _ _ ⟨rfl, rfl⟩)
          have hd : (deep : Int) < 4 := hd
          obtain ⟨n, rfl⟩ : ∃ n', n = n' + 1 := ⟨n - 1, by omega⟩
          have hcn := hC.c
          refine ⟨a, b, c, B.cnt, [.ref pa, .d (rndsD B.rounds), .ref po, .d (.int B.left)], rfl, hb.ba.symm, hb.b, by omega, (show 4 ≤ 10 by decide), by omega, hp, fun z c' M1 c0 c1 hz p1 eb o1 => ?_⟩
          have hb1 : BkAt M1 a b pa po { B with cnt := c' } := hb.oth2 o1 eb
          have mv1 : Mv a b pa po po M M1 := Mv.oth2 o1
          have ed : ((deep : Int) + 1) = ((deep + 1 : Nat) : Int) := by omega
          refine ⟨a, b, pa, po, c + 8, (S.tick.name z).pushE z, { B with cnt := c' }, ps, true, deep + 1, by rw [← ed], hC.each c0 c1 hz, by omega, by omega, hb1, p1, by show c + 8 + 200 * B.left + 9 ≤ lots; omega, fun ss1 S1 B1 po1 c2 M2 f1 C1 hb2 mv2 p2 hc2 => ?_⟩
          have hc2 : c2 + 200 * B1.left ≤ c + 8 + 200 * B.left + 9 := hc2
          have bg1 : S1.begun = S.begun ++ [(tEach, z)] := (fitL_ok ss1 f1).2.1
          have ow1 : S1.own = z := (fitL_ok ss1 f1).2.2.1
          have mvA : Mv a b pa po po1 M M2 := mv1.trans mv2 p1.there hb1.nb hb1.np
          have rk2 := C1.rk
          refine sq_cut (fun σ M' => σ = [some (.ref a), some (.ref b), some (.d (.list (ps.map PyData.str))), some (.d (.bool false)), some (.d (.list [.int deep, .int way, .bool can, .list (cs.map askD)])), some (.d (.int deep)), some (.d (.int way)), some (.d (.bool can)), some (.d (.list (cs.map askD))), some (.d (rndsD (B.rnds false))), none, none, none, some (.d (.str z)), some (.d (.tuple (stDs ss1))), none] ∧ M2 = M') (fun N' hN' => hN' _ _ ⟨rfl, rfl⟩) ?_
          rintro _ _ ⟨rfl, rfl⟩
          have lr2 := rk2.1
          have eb3 : (mdel M2 po1) b = some (.lst (bkW pa po1 B1)) := by rw [mdel_ne hb2.ob.symm]; exact hb2.b
          obtain ⟨R3, hR3⟩ : ∃ R3, R3 = B1.rounds ++ [(z, B1.own)] := ⟨_, rfl⟩
          have er : (PyData.list (B1.rounds.map rndD ++ [.tuple [.str z, .list (asksL B1.own)]])) = rndsD R3 := by
            rw [hR3]
            unfold rndsD
            rw [List.map_append]
            rfl
          have e3 : ((bkW pa po1 B1).set 2 (.d (.list (B1.rounds.map rndD ++ [.tuple [.str z, .list (asksL B1.own)]])))) = bkW pa po1 { B1 with rounds := R3 } := by rw [er]; rfl
          obtain ⟨M3, hM3⟩ : ∃ M3, M3 = mset (mdel M2 po1) b (.lst (bkW pa po1 { B1 with rounds := R3 })) := ⟨_, rfl⟩
          have e3' : mset (mdel M2 po1) b (.lst ((bkW pa po1 B1).set 2 (.d (.list (B1.rounds.map rndD ++ [.tuple [.str z, .list (asksL B1.own)]]))))) = M3 := by rw [e3, hM3]
          refine sq_cut (fun σ M' => σ = [some (.ref a), some (.ref b), some (.d (.list (ps.map PyData.str))), some (.d (.bool false)), some (.d (.list [.int deep, .int way, .bool can, .list (cs.map askD)])), some (.d (.int deep)), some (.d (.int way)), some (.d (.bool can)), some (.d (.list (cs.map askD))), some (.d (rndsD (B.rnds false))), none, none, none, some (.d (.str z)), some (.d (.tuple (stDs ss1))), none] ∧ M' = M3) (fun N' hN' => ?_) ?_
          · refine ⟨_, hb2.b, _, at2, _, hb2.b, _, at3, ?_⟩
            refine ⟨_, hb2.o, dataQ_of ⟨sm2, sm1, ?_⟩⟩
            refine ⟨smL (by simp; omega), ?_⟩
            refine ⟨_, eb3, 2, rfl, ?_⟩
            exact hN' _ _ ⟨rfl, e3'⟩
          rintro _ M3 ⟨rfl, rfl⟩
          have b3 : M3 b = some (.lst (bkW pa po1 { B1 with rounds := R3 })) := by rw [hM3, mset_same]
          have old3 : ∀ x, x ≠ b → x ≠ po1 → M3 x = M2 x := fun x nb no => by rw [hM3, mset_ne nb, mdel_ne no]
          refine sq_cut (fun σ M' => σ = [some (.ref a), some (.ref b), some (.d (.list (ps.map PyData.str))), some (.d (.bool false)), some (.d (.list [.int deep, .int way, .bool can, .list (cs.map askD)])), some (.d (.int deep)), some (.d (.int way)), some (.d (.bool can)), some (.d (.list (cs.map askD))), some (.d (rndsD (B.rnds false))), none, none, none, some (.d (.str z)), some (.d (.tuple (stDs ss1))), none] ∧ ∃ p, M3 p = none ∧ M' = mset (mset M3 p (.lst [])) b (.lst (bkW pa p { B1 with rounds := R3, own := [] }))) (fun N' hN' => ?_) ?_
          · refine ⟨sm0, fun p np => ?_⟩
            have npb : b ≠ p := by rintro rfl; rw [b3] at np; cases np
            exact ⟨_, by rw [mset_ne npb]; exact b3, 3, rfl, hN' _ _ ⟨rfl, p, np, rfl⟩⟩
          rintro _ _ ⟨rfl, p, np, rfl⟩
          obtain ⟨M4, hM4⟩ : ∃ M4, M4 = mset (mset M3 p (.lst [])) b (.lst (bkW pa p { B1 with rounds := R3, own := [] })) := ⟨_, rfl⟩
          rw [← hM4]
          have a2 : M2 a ≠ none := p2.there
          have npb : b ≠ p := by rintro rfl; rw [b3] at np; cases np
          have npa : a ≠ p := by rintro rfl; rw [old3 a hb2.ba.symm hb2.oa.symm] at np; exact a2 np
          have nppa : pa ≠ p := by rintro rfl; rw [old3 pa hb2.ab hb2.ao, hb2.a] at np; cases np
          have old4 : ∀ x, x ≠ b → x ≠ po1 → x ≠ p → M4 x = M2 x := fun x nb no n' => by rw [hM4, mset_ne nb, mset_ne n', old3 x nb no]
          have hb4 : BkAt M4 a b pa p { B1 with rounds := R3, own := [] } := by
            refine ⟨hb2.ba, hb2.aa, npa.symm, hb2.ab, npb.symm, nppa, by rw [hM4, mset_same], ?_, ?_⟩
            · rw [old4 pa hb2.ab hb2.ao nppa]; exact hb2.a
            · rw [hM4, mset_ne npb.symm, mset_same]; rfl
          have mv24 : Mv a b pa po1 p M2 M4 := by
            refine ⟨fun x o xa xb xp xo e => ?_, ?_⟩
            · have nx : x ≠ p := by rintro rfl; rw [old3 x xb xo, e] at np; cases np
              rw [old4 x xb xo nx]
              exact e
            · by_cases e : p = po1
              · exact .inl e
              · right
                rw [← old3 p npb.symm e]
                exact np
          have p4 : Pot a c2 M4 := p2.of (old4 a hb2.ba.symm hb2.oa.symm npa)
          have mvB : Mv a b pa po p M M4 := mvA.trans mv24 p2.there hb2.nb hb2.np
          have ln : (cs.map askD).length = cs.length := by simp
          refine ⟨a, c2, _, rfl, by rw [ln, ecs]; simp; omega, by rw [ln]; exact nat_lt_of (n := 20) (by rw [show (2 : Nat) ^ 20 = 1048576 by decide]; omega) (by decide), by omega, p4, fun r M5 r0 r1 p5 o5 => ?_⟩
          rw [ln] at r1
          obtain ⟨q, hq, e⟩ := pick_get (f := askD) (l := cs) r0 r1
          refine ⟨_, e, _, at0, sm4, ?_⟩
          obtain ⟨qa, x, y, qk, qy⟩ := hcs q hq
          obtain ⟨q1, q2, q3⟩ := hC.m.ai q qa
          rw [qk] at q3
          have := C1.popE hz.1 bg1 ow1 hC.m.pb hC.m.lp
          rw [← hR3] at this
          refine h (.each z q.1 ss1) (S1.popE z) _ p (c2 + 1) M5 ⟨hC.can, hC.new c0 c1 hz, (hC.m.io rfl).1, q1, ⟨x, y, q3, qy⟩, S1, f1, rfl⟩ this (hb4.oth o5) (mvB.trans (Mv.oth o5) p4.there hb4.nb hb4.np) p5 ?_
          show c2 + 1 + 200 * B1.left ≤ _
          omega
  rintro _ _ ⟨rfl, rfl⟩
  -- hard, soft
  refine sq_cut (fun σ M' => σ = [some (.ref a), some (.ref b), some (.d (.list (ps.map PyData.str))), some (.d (.bool ins)), some (.d (.list [.int deep, .int way, .bool can, .list (cs.map askD)])), some (.d (.int deep)), some (.d (.int way)), some (.d (.bool can)), some (.d (.list (cs.map askD))), some (.d (rndsD (B.rnds ins))), none, none, none, none, none, none] ∧ M = M') (fun N hN => ?_) ?_
  · dsimp only [tIfD, Dl.tAndT, tTst, tBin, Dl.tVar, slotQ, tK, rInt0]
    by_cases h9 : 9 < way
    · refine bqc true (decide_eq_true h9) ?_
      refine iteT ?_
      cases can with
      | false =>
        refine bqc false rfl ?_
        refine iteF ?_
        exact hN _ _ ⟨rfl, rfl⟩
      | true =>
        refine bqc true rfl ?_
        refine iteT ?_
        obtain ⟨w, hw, e⟩ := pick_get (f := PyData.str) (l := [("hard" : Str), "soft"]) (r := way - 10) (by omega) (show way - 10 < 2 by omega)
        refine ⟨sm2, _, e, ?_⟩
        refine ⟨_, hb.b, _, at1, _, hb.b, _, at3, _, hb.a, dataQ_of ⟨_, hb.o, dataQ_of ⟨smA, ?_⟩⟩⟩
        rw [← asks_app]
        refine ⟨a, c, B.asks ++ B.own, B.rnds ins, 3, rfl, by decide, by decide, akk, rks, lA, hcan3 rfl, (show c + cC 2 ≤ lots by rw [c156]; omega), hp, fun x M1 hx p1 o1 => ?_⟩
        rw [c156] at p1
        refine ⟨sm2, ?_⟩
        exact h (.con w x) S.tick B po (c + 156) M1 ⟨hC.can, by simpa using hw, hC.m.knows hx (by decide), rfl⟩ hC.tick (hb.oth o1) (Mv.oth o1) p1 (by omega)
    · refine bqc false (decide_eq_false h9) ?_
      refine iteF ?_
      exact hN _ _ ⟨rfl, rfl⟩
  rintro _ _ ⟨rfl, rfl⟩
  -- ask
  refine sq_cut (fun σ M' => ∃ z k c', σ = [some (.ref a), some (.ref b), some (.d (.list (ps.map PyData.str))), some (.d (.bool ins)), some (.d (.list [.int deep, .int way, .bool can, .list (cs.map askD)])), some (.d (.int deep)), some (.d (.int way)), some (.d (.bool can)), some (.d (.list (cs.map askD))), some (.d (rndsD (B.rnds ins))), none, none, none, none, none, some (.d (.tuple [.str z, kdD k]))] ∧ NmOf c' z ∧ KdOk k ∧ B.cnt < c' ∧ c' ≤ B.cnt + 3 ∧ BkAt M' a b pa po { B with cnt := c' } ∧ Mv a b pa po po M M' ∧ Pot a (c + 20) M') (fun N hN => ?_) ?_
  · have hcn := hC.c
    refine ⟨a, b, c, B.cnt, [.ref pa, .d (rndsD B.rounds), .ref po, .d (.int B.left)], rfl, hb.ba.symm, hb.b, by omega, (show 4 ≤ 10 by decide), by omega, hp, fun z c' M1 c0 c1 hz p1 eb o1 => ?_⟩
    have hb1 : BkAt M1 a b pa po { B with cnt := c' } := hb.oth2 o1 eb
    have mv1 : Mv a b pa po po M M1 := Mv.oth2 o1
    refine ⟨rfl, ?_⟩
    cases e1 : PyData.eqv (.int way) (.int 4) with
    | false =>
      refine bqc false (by first | exact e1 | rfl) ?_
      refine iteF ?_
      refine ⟨a, _, false, rfl, by omega, p1, fun k M2 hk p2 o2 => ⟨sm2, ?_⟩⟩
      exact hN _ _ ⟨z, k, c', rfl, hz, hk, c0, c1, hb1.oth o2, mv1.trans (Mv.oth o2) p1.there hb1.nb hb1.np, p2⟩
    | true =>
      refine bqc true (by first | exact e1 | rfl) ?_
      refine iteT ?_
      dsimp only [tNot2, Dl.tVar, slotQ]
      refine bq ?_
      refine ⟨a, _, !ins, rfl, by omega, p1, fun k M2 hk p2 o2 => ⟨sm2, ?_⟩⟩
      exact hN _ _ ⟨z, k, c', rfl, hz, hk, c0, c1, hb1.oth o2, mv1.trans (Mv.oth o2) p1.there hb1.nb hb1.np, p2⟩
  rintro _ M1 ⟨z, k, c', rfl, hz, hk, c0, c1, hb1, mv1, p1⟩
  have fits : FitS S (.ask z k) (S.tick.ask z k) := ⟨hC.can, hC.new c0 c1 hz, hk, rfl⟩
  have cm := hC.ask c0 c1 hz hk
  have eask : (PyData.tuple [.str z, kdD k]) = askD (z, k) := rfl
  have mk0 : mulOk 2 0 := mulOk_of (n := 4) (m := 4) (by decide) (by decide) (by decide) (by decide) (by decide)
  have mk1 : mulOk 2 1 := mulOk_of (n := 4) (m := 4) (by decide) (by decide) (by decide) (by decide) (by decide)
  cases ins with
  | true =>
    refine ⟨mk1, _, hb1.b, _, at3, ⟨_, hb1.o⟩, _, hb1.o, by rw [List.length_map, ak_len, sizeLine_eq]; show B.own.length < _; omega, ?_⟩
    refine ⟨sm1, sm3, ?_⟩
    refine h (.ask z k) _ _ po (c + 20) _ fits cm ?_ ?_ (p1.of (mset_ne hb1.oa.symm)) ?_
    · refine ⟨hb1.ba, hb1.aa, hb1.oa, hb1.ab, hb1.ob, hb1.ao, by rw [mset_ne hb1.ob.symm]; exact hb1.b, by rw [mset_ne hb1.ao]; exact hb1.a, ?_⟩
      rw [mset_same]
      show _ = some (akW (B.own ++ [(z, k)]))
      unfold akW
      rw [asks_app]
      simp [asksL, askD]
    · exact ⟨fun x o xa xb xp xo e => by rw [mset_ne xo]; exact mv1.1 x o xa xb xp xo e, mv1.2⟩
    · show c + 20 + 200 * B.left ≤ _
      omega
  | false =>
    refine ⟨mk0, _, hb1.b, _, at1, ⟨_, hb1.a⟩, _, hb1.a, by rw [List.length_map, ak_len, sizeLine_eq]; show B.asks.length < _; omega, ?_⟩
    refine ⟨sm1, sm3, ?_⟩
    refine h (.ask z k) _ _ po (c + 20) _ fits cm ?_ ?_ (p1.of (mset_ne hb1.aa.symm)) ?_
    · refine ⟨hb1.ba, hb1.aa, hb1.oa, hb1.ab, hb1.ob, hb1.ao, by rw [mset_ne hb1.ab.symm]; exact hb1.b, ?_, by rw [mset_ne hb1.ao.symm]; exact hb1.o⟩
      rw [mset_same]
      show _ = some (akW (B.asks ++ [(z, k)]))
      unfold akW
      rw [asks_app]
      simp [asksL, askD]
    · exact ⟨fun x o xa xb xp xo e => by rw [mset_ne xp]; exact mv1.1 x o xa xb xp xo e, mv1.2⟩
    · show c + 20 + 200 * B.left ≤ _
      omega
end Ms
set_option Elab.async false
set_option linter.all false
set_option maxRecDepth 100000
namespace Ms
open PySem PySem.Spec PyProof.Rows L2 Dl
theorem no_draws {g : Gc} (T : Txt g) : Df g 8 "_law_steps" ["_law_pot_here", "_law_book", "_law_parts", "_law_inside", "_law_deep"] (spDs' 0) :=
  df_of (k := 7) (i := i_L_steps) T.p_L_steps T.sy sc_L_steps ok_L_steps (fun _ _ _ _ _ _ us hl => match us, hl with | [_, _, _, _, _], _ => rfl) (fun _ _ _ _ (h : False) => h.elim) (fun _ _ _ _ _ _ _ (h : False) => h.elim)
theorem d_draws {g : Gc} (T : Txt g) : ∀ n : Nat, Df g (10 + 2 * n) "_law_steps" ["_law_pot_here", "_law_book", "_law_parts", "_law_inside", "_law_deep"] (spDs n) ∧ True
  | 0 => ⟨sds_of T 0 (sde_of T 0 8 (by decide) (no_draws T)), trivial⟩
  | n + 1 => by
    have c := sds_of T (n + 1) (sde_of T (n + 1) (10 + 2 * n) (by omega) (d_draws T n).1)
    have e2 : 9 + 2 * (n + 1) + 1 = 10 + 2 * (n + 1) := by omega
    exact ⟨by rw [← e2]; exact c, trivial⟩
/-- a form drawn -/
def spDf : SpD := fun ws M Q _ => ∃ (a : Addr) (c : Nat) (m : Nat), ws = [.ref a, .d (.int m)] ∧ m ≤ 60 ∧ c + 13000 ≤ lots ∧ Pot a c M ∧ ∀ ss M', IsForm ss → Pot a (c + 13000) M' → Oth a M M' → Q (.d (.tuple (stDs ss))) M'
theorem spDf_len : ∀ ws M Q E, spDf ws M Q E → ws.length = 2 := by rintro _ _ _ _ ⟨a, c, m, rfl, _⟩; rfl
theorem d_L_form {g : Gc} (T : Txt g) : Df g 19 "_law_form" ["_law_pot_here", "_law_size"] spDf := by
  refine df_of (k := 18) (i := i_L_form) T.p_L_form T.sy sc_L_form ok_L_form (fun _ _ _ _ _ _ us hl => match us, hl with | [_, _], _ => rfl) ?_ (fun Y ws M Q E F hE h => ?_)
  · exact spDf_len
  · obtain ⟨a, c, m, rfl, m60, hc, hp, h⟩ := h
    refine ⟨_, (ss_one (s_ret (q_call F 0 (d_draws T 4).1 (a_cons (q_var F 0) (a_cons (q_lstM (a_cons (q_call F 1 (d_L_take T) (a_cons (q_var F 0) (a_cons q_int a_nil))) (a_cons (q_lstM a_nil) (a_cons (q_lst a_nil) (a_cons (q_lstM a_nil) (a_cons (q_var F 1) a_nil)))))) (a_cons (q_lst a_nil) (a_cons q_bool (a_cons q_int a_nil)))))))), ?_⟩
    refine ⟨a, c, 26, rfl, by decide, by decide, by omega, hp, fun r M1 r0 r1 p1 o1 => ?_⟩
    refine ⟨sm0, fun pa npa => ?_⟩
    refine ⟨sm0, sm0, fun po npo => ?_⟩
    refine ⟨sm5, fun b nb => ?_⟩
    refine ⟨sm0, ?_⟩
    obtain ⟨k, hk⟩ := Int.eq_ofNat_of_zero_le r0
    have a1 := p1.there
    have npaa : pa ≠ a := by rintro rfl; exact a1 npa
    have ap : ∀ {x}, mset M1 pa (.lst []) x = none → x ≠ a := fun {x} e => by
      rintro rfl
      rw [mset_ne npaa.symm] at e
      exact a1 e
    have npoa : po ≠ a := ap npo
    have npop : po ≠ pa := by rintro rfl; rw [mset_same] at npo; cases npo
    have nb1 : b ≠ po := by rintro rfl; rw [mset_same] at nb; cases nb
    rw [mset_ne nb1] at nb
    have nba : b ≠ a := ap nb
    have nbp : b ≠ pa := by rintro rfl; rw [mset_same] at nb; cases nb
    have npo1 : M1 po = none := by rw [mset_ne npop] at npo; exact npo
    have nb2 : M1 b = none := by rw [mset_ne nbp] at nb; exact nb
    have fr : ∀ {x}, M1 x = none → M x = none := fun {x} e => by
      cases e2 : M x with
      | none => rfl
      | some o =>
        by_cases xa : x = a
        · rw [xa] at e; exact absurd e a1
        · rw [o1 x o xa e2] at e; cases e
    refine ⟨a, b, pa, po, c + 1, s0, ⟨k, [], [], [], m⟩, [], false, 0, rfl, ?_, by decide, by decide, ?_, ((p1.of (mset_ne npaa.symm)).of (mset_ne npoa.symm)).of (mset_ne nba.symm), ?_, fun ss S' B' po' c' M' hf hC hb' mv p' hc' => ?_⟩
    · refine ⟨s0_ok, fun p hp => (by cases hp), fun p hp => (by cases hp), fun p hp => (by cases hp), fun _ => ⟨rfl, rfl⟩, fun e => (by cases e), fun z hz => (by cases hz), ?_, ?_, fun p hp => (by cases hp), rfl, Nat.zero_le _, Nat.zero_le _, Nat.zero_le _, fun p hp => (by cases hp), Nat.zero_le _⟩
      · show k + 4 * m ≤ 270
        omega
      · show 0 + m ≤ 60
        omega
    · refine ⟨nba, npaa, npoa, nbp.symm, nb1.symm, npop.symm, ?_, ?_, ?_⟩
      · rw [mset_same, hk]; rfl
      · rw [mset_ne nbp.symm, mset_ne npop.symm, mset_same]; rfl
      · rw [mset_ne nb1.symm, mset_same]; rfl
    · show c + 1 + 200 * m + 9 ≤ lots
      omega
    · have hc' : c' + 200 * B'.left ≤ c + 1 + 200 * m + 9 := hc'
      refine h ss M' ⟨S', hf⟩ (p'.mono (by omega)) fun x o xa e => ?_
      have x1 : x ≠ pa := by rintro rfl; rw [fr npa] at e; cases e
      have x2 : x ≠ po := by rintro rfl; rw [fr npo1] at e; cases e
      have x3 : x ≠ b := by rintro rfl; rw [fr nb2] at e; cases e
      exact mv.1 x o xa x3 x1 x2 (by rw [mset_ne x3, mset_ne x2, mset_ne x1]; exact o1 x o xa e)
/-! ### the law -/
def ssW : List Stp := [.ask "qa" (.pick ["a", "b"]), .iff (.nt (.pc "is" "qa" (.str "a"))) [] [.part "p" []]]
theorem ssW_form : IsForm ssW := by
  have c0 : Can s0 := ⟨s0_ok, by decide, by decide⟩
  have k0 : KdOk (.pick ["a", "b"]) := ⟨by decide, by decide, by decide +kernel, fun z hz => by
    simp only [List.mem_cons, List.not_mem_nil, or_false] at hz
    rcases hz with rfl | rfl <;> decide +kernel⟩
  have q0 : isNameS "qa" = true := by decide +kernel
  have p0 : isNameS "p" = true := by decide +kernel
  have pq : ("p" : Str) ≠ "qa" := by decide +kernel
  obtain ⟨S1, e1⟩ : ∃ S1, S1 = s0.tick.ask "qa" (.pick ["a", "b"]) := ⟨_, rfl⟩
  have o1 : SOk S1 := by rw [e1]; exact SOk.ask c0 k0
  have b1 : S1.begun = [] ∧ S1.steps = 1 ∧ S1.named = [("qa" : Str)] ∧ S1.asked = [(("qa" : Str), (Kd.pick ["a", "b"], tNo))] ∧ S1.own = tNo := by rw [e1]; exact ⟨rfl, rfl, rfl, rfl, rfl⟩
  obtain ⟨b11, b12, b13, b14, b15⟩ := b1
  have c1 : Can S1 := ⟨o1, by rw [b12]; decide, by rw [b11]; decide⟩
  obtain ⟨T1, e2⟩ : ∃ T1, T1 = S1.tick.push tIf tNo := ⟨_, rfl⟩
  have o2 : SOk T1 := by rw [e2]; exact SOk.pushI c1
  have t1 : T1.begun = [(tIf, tNo)] ∧ T1.steps = 2 ∧ T1.named = [("qa" : Str)] := by
    rw [e2]
    refine ⟨?_, ?_, b13⟩
    · show S1.begun ++ [(tIf, tNo)] = _
      rw [b11]
      rfl
    · show S1.steps + 1 = 2
      rw [b12]
  obtain ⟨t11, t12, t13⟩ := t1
  have c2 : Can T1 := ⟨o2, by rw [t12]; decide, by rw [t11]; decide⟩
  have o3 : SOk ((T1.tick.name "p").push tPart "p") := SOk.pushP c2 p0
  have n1 : New T1 "p" := ⟨p0, by rw [t13]; simp [pq]⟩
  have f1 : FitS T1 (.part "p" []) ((T1.tick.name "p").push tPart "p").pop := ⟨c2, n1, _, ⟨o3, rfl⟩, rfl⟩
  have f2 : FitL T1 [.part "p" []] ((T1.tick.name "p").push tPart "p").pop := ⟨_, f1, (fitS_ok _ f1).1, rfl⟩
  have kn : Knows S1.tick (.nt (.pc "is" "qa" (.str "a"))) := by
    refine .nt (.pc (k := .pick ["a", "b"]) (r := tNo) ?_ (.inl rfl) ⟨rfl, "a", by simp, rfl⟩ q0 k0)
    show S1.asked.lookup ("qa" : Str) = _
    rw [b14]
    simp
  have f3 : FitS S1 (.iff (.nt (.pc "is" "qa" (.str "a"))) [] [.part "p" []]) ((T1.tick.name "p").push tPart "p").pop.pop := ⟨c1, kn, T1, _, by rw [e2] at o2 ⊢; exact ⟨o2, rfl⟩, f2, rfl⟩
  refine ⟨_, S1, ⟨c0, ⟨q0, rfl⟩, k0, e1⟩, _, f3, (fitS_ok _ f3).1, rfl⟩
theorem ssW_text : Txt.join tNl (rowsL ssW) = "ask qa pick a b\nif not qa is a\nelse\npart p\nend\nend" := by decide +kernel
theorem no_form : IsForm [] := ⟨s0, s0_ok, rfl⟩
theorem form_bound {ss : List Stp} {S S' : Sc} (h : FitL S ss S') : ((rowsL ss).map (·.length)).sum + (rowsL ss).length * tNl.length ≤ 1000000 := by
  obtain ⟨fl, fs⟩ := rows_few h
  have a := sum_le fs
  have l1 : tNl.length = 1 := by decide +kernel
  have : (rowsL ss).length * 1500 ≤ 180 * 1500 := Nat.mul_le_mul_right _ fl
  rw [l1]
  omega
theorem form_len {ss : List Stp} {S S' : Sc} (h : FitL S ss S') : (Txt.join tNl (rowsL ss)).length ≤ 1000000 := Nat.le_trans (join_len _ _) (form_bound h)
theorem law_ok {g : Gc} {f : Addr} {fd : FuncData} (T : Txt g) (F : L2.Fun g.K "law" "law" s_law f fd) : FnG g 60 f fd ["_law_script"] spLaw := by
  refine fng_of (k := 60 - 1) (i := i_law) F sc_law ok_law T.sy spLaw_len (fun Y ws M Q E F hE h => ?_)
  obtain ⟨ns, rfl, hns, h⟩ := h
  refine ⟨_, (ss_cons (s_for F (i_rng1 F 0 T.n_range (a_cons (q_callB F 1 (c_max F) T.n_max (by decide +kernel) (a_cons q_int (a_cons (q_callB F 4 (c_min F) T.n_min (by decide +kernel) (a_cons (q_callB F 6 c_len T.n_len (by decide +kernel) (a_cons (q_var F 0) a_nil)) (a_cons q_int a_nil))) a_nil))) a_nil)) (g_name F 1) (ss_cons (s_set (q_call F 2 (d_L_pot T) (a_cons (q_var F 0) (a_cons (q_var F 1) a_nil))) (g_name F 2)) (ss_cons (s_set (q_call F 3 (d_L_form T) (a_cons (q_var F 2) (a_cons (q_ix (q_lst (a_cons q_int (a_cons q_int (a_cons (q_ix (q_lst (a_cons q_int (a_cons q_int a_nil))) (q_callT F 11 c_int T.n_int (by decide +kernel) (a_cons (q_cmp o_gt (q_var F 1) q_int) a_nil))) a_nil)))) (q_call F 8 (d_L_take T) (a_cons (q_var F 2) (a_cons q_int a_nil)))) a_nil))) (g_name F 3)) (ss_cons (s_set (q_met m_join q_str (a_cons (q_call F 5 (d_L_rows T 6) (a_cons (q_var F 3) a_nil)) a_nil)) (g_name F 4)) (ss_one (s_if (t_cmp o_le (q_callB F 6 c_len T.n_len (by decide +kernel) (a_cons (q_var F 4) a_nil)) q_int) (ss_cons (s_set (q_call F 7 (d_form_text T) (a_cons (q_var F 3) a_nil)) (g_name F 5)) (ss_one (s_if (QW.pt (w_or (t_not (t_val (q_isi F 9 10 isk_str T.n_isinstance T.n_str (by decide +kernel) (q_var F 5)))) (w_or (t_cmp (o_ne F) (q_var F 5) (q_var F 4)) (w_or1 (t_cmp (o_ne F) (q_call F 7 (d_form_text T) (a_cons (q_var F 3) a_nil)) (q_var F 4)))))) (ss_one (s_ret q_bool)) ss_nil))) ss_nil)))))) (ss_cons (s_set (q_tup (a_cons (q_tup (a_cons q_str (a_cons q_str (a_cons (q_tup (a_cons q_str (a_cons (q_tup (a_cons q_str (a_cons q_str a_nil))) a_nil))) a_nil)))) (a_cons (q_tup (a_cons q_str (a_cons (q_tup (a_cons q_str (a_cons (q_tup (a_cons q_str (a_cons q_str (a_cons q_str a_nil)))) a_nil))) (a_cons (q_tup a_nil) (a_cons (q_tup (a_cons (q_tup (a_cons q_str (a_cons q_str (a_cons (q_tup a_nil) a_nil)))) a_nil)) a_nil))))) a_nil))) (g_name F 3)) (ss_one (s_ret (q_and (q_cmp (o_eq F) (q_call F 7 (d_form_text T) (a_cons (q_var F 3) a_nil)) q_str) (q_one (q_cmp (o_eq F) (q_call F 7 (d_form_text T) (a_cons (q_tup a_nil) a_nil)) q_str))))))), ?_⟩
  have lo : lots = 1073741824 := by decide
  refine ⟨⟨by omega, by omega⟩, fun j σ M' => ∃ x1 x2 x3 x4 x5, σ = [some (.scr (ns.map PyData.int)), x1, x2, x3, x4, x5], ⟨_, _, _, _, _, rfl⟩, fun _ _ _ _ => trivial, ?_, ?_⟩
  · rintro j w σ M1 hj ⟨x1, x2, x3, x4, x5, rfl⟩
    obtain ⟨hj', rfl⟩ := rng_get hj
    have hj16 : j < 12 := by omega
    refine ⟨ns, _, rfl, by omega, by omega, fun p M2 np pt _ => ?_⟩
    have lst2 : ∃ v : Nat, atI [PyData.int 60, .int 12] (if decide ((1 : Int) < 0 + (j : Int)) = true then 1 else 0) = some (.int v) ∧ v ≤ 60 := by
      by_cases e : (1 : Int) < 0 + (j : Int)
      · rw [if_pos (decide_eq_true e)]; exact ⟨12, at1, by decide⟩
      · rw [if_neg (by simpa using e)]; exact ⟨60, at0, by decide⟩
    obtain ⟨v, hv, v60⟩ := lst2
    refine ⟨sm2, _, hv, sm3, p, 0, 3, rfl, by decide, by decide, by omega, pt, fun r M3 r0 r1 p3 o3 => ?_⟩
    obtain ⟨m, hm, m60⟩ : ∃ m : Nat, atI [PyData.int 5, .int 20, .int v] r = some (.int m) ∧ m ≤ 60 := by
      obtain ⟨d, hd, hm⟩ := atI_mem (xs := [PyData.int 5, .int 20, .int v]) r0 r1
      simp only [List.mem_cons, List.not_mem_nil, or_false] at hm
      rcases hm with rfl | rfl | rfl
      · exact ⟨5, hd, by decide⟩
      · exact ⟨20, hd, by decide⟩
      · exact ⟨v, hd, v60⟩
    refine ⟨_, hm, p, _, m, rfl, m60, by omega, p3, fun ss M4 hf p4 o4 => ?_⟩
    obtain ⟨S', hfit⟩ := id hf
    refine ⟨⟨_, rfl⟩, ss, s0, S', rfl, hfit, by decide, fun q M5 k5 hq => ?_⟩
    have fb := form_bound hfit
    have fl := form_len hfit
    refine ⟨_, hq, dataQ_of ⟨rowsL ss, rfl, Nat.le_trans fb (by decide), ?_⟩⟩
    refine ⟨smL (show (Txt.join tNl (rowsL ss)).length ≤ 16000000 by omega), ?_⟩
    refine ifD (fun _ => ?_) (fun _ => ⟨_, _, _, _, _, rfl⟩)
    refine ⟨ss, rfl, hf, fun M6 k6 => ?_⟩
    have er : ∀ x : Str, (!PyData.eqv (.str x) (.str x)) = false := fun x => by simp [PyData.eqv]
    dsimp only [gNam, tIfD, Dl.tOrT, Dl.tNotT, tTst, tIsi, Dl.tVar, slotQ, List.set]
    refine bqc true rfl ?_
    refine iteF ?_
    refine ⟨rfl, ?_⟩
    refine bqc false (er _) ?_
    refine iteF ?_
    refine ⟨ss, rfl, hf, fun M7 k7 => ⟨rfl, ?_⟩⟩
    refine bqc false (er _) ?_
    refine iteF ?_
    exact ⟨_, _, _, _, _, rfl⟩
  · rintro σ M1 ⟨x1, x2, x3, x4, x5, rfl⟩
    have ee : ∀ x y : Str, x = y → PyData.eqv (.str x) (.str y) = true := fun x y e => by rw [e]; simp [PyData.eqv]
    refine ⟨sm2, sm2, sm3, sm3, sm2, sm0, sm0, sm3, sm1, sm4, sm2, ?_⟩
    refine ⟨ssW, rfl, ssW_form, fun M2 k2 => ⟨rfl, ?_⟩⟩
    refine bqc true (ee _ _ ssW_text) ?_
    refine iteT ?_
    refine ⟨sm0, [], rfl, no_form, fun M3 k3 => ⟨rfl, ?_⟩⟩
    have := h M3
    exact cast (congrArg (fun b => Q (.d (.bool b)) M3) (ee _ _ (by decide +kernel)).symm) this
end Ms
set_option Elab.async false
set_option linter.all false
set_option maxRecDepth 100000
namespace Ms
open PySem PySem.Spec PyProof.Rows L2 Dl
theorem all_mk {l : PySem.W.OpenLaw} {w : World} {K : PySem.W.Frag} {h : Heap} {mg : Str → Option Value} {fa f_is_whole f_is_within f_is_number f_is_name f_are_options f_is_count f_is_kind f_need_kind f_written f_kind_text f_is_piece f_pieces_of_parts f_pieces_in f_is_condition f_need_condition f_worded f_condition_text f_Scope_init f_Scope_own_round f_Scope_is_new f_Scope_knows_piece f_Scope_knows_within f_Scope_knows f_Scope_take_ask f_Scope_take_part f_Scope_take_each f_Scope_take_if f_Scope_take_leave f_Scope_takes f_Scope_close f_heads_and_steps f_step_fits f_steps_fit f_is_form f_need_form f_block_rows f_step_rows f_rows_of f_form_text f_L_pot f_L_take f_L_name f_L_options f_L_kind f_L_piece f_L_condition f_L_steps f_L_step f_L_form f_L_kind_text f_L_condition_text f_L_rows f_law C_NoKind C_NoCondition C_Scope : Addr} (X : K.In h) (G : h.Ns mainGlobals mg) (hfa : mg "law" = some (.ref fa))
    {od_is_whole an_is_whole od_is_within an_is_within od_is_number an_is_number od_is_name an_is_name od_are_options an_are_options od_is_count an_is_count od_is_kind an_is_kind od_need_kind an_need_kind od_written an_written od_kind_text an_kind_text od_is_piece an_is_piece od_pieces_of_parts an_pieces_of_parts od_pieces_in an_pieces_in od_is_condition an_is_condition od_need_condition an_need_condition od_worded an_worded od_condition_text an_condition_text od_Scope_init an_Scope_init od_Scope_own_round an_Scope_own_round od_Scope_is_new an_Scope_is_new od_Scope_knows_piece an_Scope_knows_piece od_Scope_knows_within an_Scope_knows_within od_Scope_knows an_Scope_knows od_Scope_take_ask an_Scope_take_ask od_Scope_take_part an_Scope_take_part od_Scope_take_each an_Scope_take_each od_Scope_take_if an_Scope_take_if od_Scope_take_leave an_Scope_take_leave od_Scope_takes an_Scope_takes od_Scope_close an_Scope_close od_heads_and_steps an_heads_and_steps od_step_fits an_step_fits od_steps_fit an_steps_fit od_is_form an_is_form od_need_form an_need_form od_block_rows an_block_rows od_step_rows an_step_rows od_rows_of an_rows_of od_form_text an_form_text od_L_pot an_L_pot od_L_take an_L_take od_L_name an_L_name od_L_options an_L_options od_L_kind an_L_kind od_L_piece an_L_piece od_L_condition an_L_condition od_L_steps an_L_steps od_L_step an_L_step od_L_form an_L_form od_L_kind_text an_L_kind_text od_L_condition_text an_L_condition_text od_L_rows an_L_rows od_law an_law : Option Addr} {sl_is_whole sl_is_within sl_is_number sl_is_name sl_are_options sl_is_count sl_is_kind sl_need_kind sl_written sl_kind_text sl_is_piece sl_pieces_of_parts sl_pieces_in sl_is_condition sl_need_condition sl_worded sl_condition_text sl_Scope_init sl_Scope_own_round sl_Scope_is_new sl_Scope_knows_piece sl_Scope_knows_within sl_Scope_knows sl_Scope_take_ask sl_Scope_take_part sl_Scope_take_each sl_Scope_take_if sl_Scope_take_leave sl_Scope_takes sl_Scope_close sl_heads_and_steps sl_step_fits sl_steps_fit sl_is_form sl_need_form sl_block_rows sl_step_rows sl_rows_of sl_form_text sl_L_pot sl_L_take sl_L_name sl_L_options sl_L_kind sl_L_piece sl_L_condition sl_L_steps sl_L_step sl_L_form sl_L_kind_text sl_L_condition_text sl_L_rows sl_law : Array (Option Value)} {oc_is_whole kV_is_whole dc_is_whole pm_is_whole cd_is_whole ct_is_whole oc_is_within kV_is_within dc_is_within pm_is_within cd_is_within ct_is_within oc_is_number kV_is_number dc_is_number pm_is_number cd_is_number ct_is_number oc_is_name kV_is_name dc_is_name pm_is_name cd_is_name ct_is_name oc_are_options kV_are_options dc_are_options pm_are_options cd_are_options ct_are_options oc_is_count kV_is_count dc_is_count pm_is_count cd_is_count ct_is_count oc_is_kind kV_is_kind dc_is_kind pm_is_kind cd_is_kind ct_is_kind oc_need_kind kV_need_kind dc_need_kind pm_need_kind cd_need_kind ct_need_kind oc_written kV_written dc_written pm_written cd_written ct_written oc_kind_text kV_kind_text dc_kind_text pm_kind_text cd_kind_text ct_kind_text oc_is_piece kV_is_piece dc_is_piece pm_is_piece cd_is_piece ct_is_piece oc_pieces_of_parts kV_pieces_of_parts dc_pieces_of_parts pm_pieces_of_parts cd_pieces_of_parts ct_pieces_of_parts oc_pieces_in kV_pieces_in dc_pieces_in pm_pieces_in cd_pieces_in ct_pieces_in oc_is_condition kV_is_condition dc_is_condition pm_is_condition cd_is_condition ct_is_condition oc_need_condition kV_need_condition dc_need_condition pm_need_condition cd_need_condition ct_need_condition oc_worded kV_worded dc_worded pm_worded cd_worded ct_worded oc_condition_text kV_condition_text dc_condition_text pm_condition_text cd_condition_text ct_condition_text oc_Scope_init kV_Scope_init dc_Scope_init pm_Scope_init cd_Scope_init ct_Scope_init oc_Scope_own_round kV_Scope_own_round dc_Scope_own_round pm_Scope_own_round cd_Scope_own_round ct_Scope_own_round oc_Scope_is_new kV_Scope_is_new dc_Scope_is_new pm_Scope_is_new cd_Scope_is_new ct_Scope_is_new oc_Scope_knows_piece kV_Scope_knows_piece dc_Scope_knows_piece pm_Scope_knows_piece cd_Scope_knows_piece ct_Scope_knows_piece oc_Scope_knows_within kV_Scope_knows_within dc_Scope_knows_within pm_Scope_knows_within cd_Scope_knows_within ct_Scope_knows_within oc_Scope_knows kV_Scope_knows dc_Scope_knows pm_Scope_knows cd_Scope_knows ct_Scope_knows oc_Scope_take_ask kV_Scope_take_ask dc_Scope_take_ask pm_Scope_take_ask cd_Scope_take_ask ct_Scope_take_ask oc_Scope_take_part kV_Scope_take_part dc_Scope_take_part pm_Scope_take_part cd_Scope_take_part ct_Scope_take_part oc_Scope_take_each kV_Scope_take_each dc_Scope_take_each pm_Scope_take_each cd_Scope_take_each ct_Scope_take_each oc_Scope_take_if kV_Scope_take_if dc_Scope_take_if pm_Scope_take_if cd_Scope_take_if ct_Scope_take_if oc_Scope_take_leave kV_Scope_take_leave dc_Scope_take_leave pm_Scope_take_leave cd_Scope_take_leave ct_Scope_take_leave oc_Scope_takes kV_Scope_takes dc_Scope_takes pm_Scope_takes cd_Scope_takes ct_Scope_takes oc_Scope_close kV_Scope_close dc_Scope_close pm_Scope_close cd_Scope_close ct_Scope_close oc_heads_and_steps kV_heads_and_steps dc_heads_and_steps pm_heads_and_steps cd_heads_and_steps ct_heads_and_steps oc_step_fits kV_step_fits dc_step_fits pm_step_fits cd_step_fits ct_step_fits oc_steps_fit kV_steps_fit dc_steps_fit pm_steps_fit cd_steps_fit ct_steps_fit oc_is_form kV_is_form dc_is_form pm_is_form cd_is_form ct_is_form oc_need_form kV_need_form dc_need_form pm_need_form cd_need_form ct_need_form oc_block_rows kV_block_rows dc_block_rows pm_block_rows cd_block_rows ct_block_rows oc_step_rows kV_step_rows dc_step_rows pm_step_rows cd_step_rows ct_step_rows oc_rows_of kV_rows_of dc_rows_of pm_rows_of cd_rows_of ct_rows_of oc_form_text kV_form_text dc_form_text pm_form_text cd_form_text ct_form_text oc_L_pot kV_L_pot dc_L_pot pm_L_pot cd_L_pot ct_L_pot oc_L_take kV_L_take dc_L_take pm_L_take cd_L_take ct_L_take oc_L_name kV_L_name dc_L_name pm_L_name cd_L_name ct_L_name oc_L_options kV_L_options dc_L_options pm_L_options cd_L_options ct_L_options oc_L_kind kV_L_kind dc_L_kind pm_L_kind cd_L_kind ct_L_kind oc_L_piece kV_L_piece dc_L_piece pm_L_piece cd_L_piece ct_L_piece oc_L_condition kV_L_condition dc_L_condition pm_L_condition cd_L_condition ct_L_condition oc_L_steps kV_L_steps dc_L_steps pm_L_steps cd_L_steps ct_L_steps oc_L_step kV_L_step dc_L_step pm_L_step cd_L_step ct_L_step oc_L_form kV_L_form dc_L_form pm_L_form cd_L_form ct_L_form oc_L_kind_text kV_L_kind_text dc_L_kind_text pm_L_kind_text cd_L_kind_text ct_L_kind_text oc_L_condition_text kV_L_condition_text dc_L_condition_text pm_L_condition_text cd_L_condition_text ct_L_condition_text oc_L_rows kV_L_rows dc_L_rows pm_L_rows cd_L_rows ct_L_rows oc_law kV_law dc_law pm_law cd_law ct_law : Value} {u_MOST_NUMBER u_WORDS u_MOST_LETTERS u_LETTERS u_MOST_OPTIONS u_MOST_PARTS u_MOST_DEEP_conditions u_MOST_PIECES u_MOST_FOLK u_MOST_STEPS u_MOST_DEEP_trees : Value} {dt_PIECES_conditions : Addr} {et_PIECES_conditions : Array DictEntry} {nt_PIECES_conditions : Nat} {dt_PIECES_trees : Addr} {et_PIECES_trees : Array DictEntry} {nt_PIECES_trees : Nat} {dt_PARTS : Addr} {et_PARTS : Array DictEntry} {nt_PARTS : Nat}
    (w_Scope : PySem.W.nsIn K mainGlobals "Scope" = some (some (.ref C_Scope)))
    (pg_Scope : PySem.W.plainGet K C_Scope Str.empty = true)
    (hc_Scope : PySem.W.hasDictIn K C_Scope = true)
    (po_Scope : PySem.W.plainOver K C_Scope = true)
    (sa_Scope : PySem.W.findIn K (.ref C_Scope) "__setattr__" = some (some (.builtin "object.__setattr__")))
    (mk_Scope : PySem.W.makesIn K C_Scope = true)
    (kc_Scope : PySem.W.keepIn K (.ref C_Scope) = true)
    (no_asked_Scope : PySem.W.findIn K (.ref C_Scope) "asked" = some none)
    (no_named_Scope : PySem.W.findIn K (.ref C_Scope) "named" = some none)
    (no_ended_Scope : PySem.W.findIn K (.ref C_Scope) "ended" = some none)
    (no_begun_Scope : PySem.W.findIn K (.ref C_Scope) "begun" = some none)
    (no_steps_Scope : PySem.W.findIn K (.ref C_Scope) "steps" = some none)
    (a_is_whole : PySem.W.nsIn K mainGlobals "is_whole" = some (some (.ref f_is_whole))) (l_is_whole : K.lookup f_is_whole = some ⟨oc_is_whole, od_is_whole, .func (PySem.W.fnOf "is_whole" "is_whole" (defArgs s_is_whole) (defBody s_is_whole) (defScope s_is_whole) .none kV_is_whole dc_is_whole pm_is_whole an_is_whole cd_is_whole ct_is_whole), sl_is_whole⟩) (c_is_whole : PySem.W.codeIn K cd_is_whole "is_whole" = true) (k_is_whole : PySem.W.keepIn K (.ref f_is_whole) = true)
    (a_is_within : PySem.W.nsIn K mainGlobals "is_within" = some (some (.ref f_is_within))) (l_is_within : K.lookup f_is_within = some ⟨oc_is_within, od_is_within, .func (PySem.W.fnOf "is_within" "is_within" (defArgs s_is_within) (defBody s_is_within) (defScope s_is_within) .none kV_is_within dc_is_within pm_is_within an_is_within cd_is_within ct_is_within), sl_is_within⟩) (c_is_within : PySem.W.codeIn K cd_is_within "is_within" = true) (k_is_within : PySem.W.keepIn K (.ref f_is_within) = true)
    (a_is_number : PySem.W.nsIn K mainGlobals "is_number" = some (some (.ref f_is_number))) (l_is_number : K.lookup f_is_number = some ⟨oc_is_number, od_is_number, .func (PySem.W.fnOf "is_number" "is_number" (defArgs s_is_number) (defBody s_is_number) (defScope s_is_number) .none kV_is_number dc_is_number pm_is_number an_is_number cd_is_number ct_is_number), sl_is_number⟩) (c_is_number : PySem.W.codeIn K cd_is_number "is_number" = true) (k_is_number : PySem.W.keepIn K (.ref f_is_number) = true)
    (a_is_name : PySem.W.nsIn K mainGlobals "is_name" = some (some (.ref f_is_name))) (l_is_name : K.lookup f_is_name = some ⟨oc_is_name, od_is_name, .func (PySem.W.fnOf "is_name" "is_name" (defArgs s_is_name) (defBody s_is_name) (defScope s_is_name) .none kV_is_name dc_is_name pm_is_name an_is_name cd_is_name ct_is_name), sl_is_name⟩) (c_is_name : PySem.W.codeIn K cd_is_name "is_name" = true) (k_is_name : PySem.W.keepIn K (.ref f_is_name) = true)
    (a_are_options : PySem.W.nsIn K mainGlobals "are_options" = some (some (.ref f_are_options))) (l_are_options : K.lookup f_are_options = some ⟨oc_are_options, od_are_options, .func (PySem.W.fnOf "are_options" "are_options" (defArgs s_are_options) (defBody s_are_options) (defScope s_are_options) .none kV_are_options dc_are_options pm_are_options an_are_options cd_are_options ct_are_options), sl_are_options⟩) (c_are_options : PySem.W.codeIn K cd_are_options "are_options" = true) (k_are_options : PySem.W.keepIn K (.ref f_are_options) = true)
    (a_is_count : PySem.W.nsIn K mainGlobals "is_count" = some (some (.ref f_is_count))) (l_is_count : K.lookup f_is_count = some ⟨oc_is_count, od_is_count, .func (PySem.W.fnOf "is_count" "is_count" (defArgs s_is_count) (defBody s_is_count) (defScope s_is_count) .none kV_is_count dc_is_count pm_is_count an_is_count cd_is_count ct_is_count), sl_is_count⟩) (c_is_count : PySem.W.codeIn K cd_is_count "is_count" = true) (k_is_count : PySem.W.keepIn K (.ref f_is_count) = true)
    (a_is_kind : PySem.W.nsIn K mainGlobals "is_kind" = some (some (.ref f_is_kind))) (l_is_kind : K.lookup f_is_kind = some ⟨oc_is_kind, od_is_kind, .func (PySem.W.fnOf "is_kind" "is_kind" (defArgs s_is_kind) (defBody s_is_kind) (defScope s_is_kind) .none kV_is_kind dc_is_kind pm_is_kind an_is_kind cd_is_kind ct_is_kind), sl_is_kind⟩) (c_is_kind : PySem.W.codeIn K cd_is_kind "is_kind" = true) (k_is_kind : PySem.W.keepIn K (.ref f_is_kind) = true)
    (a_need_kind : PySem.W.nsIn K mainGlobals "need_kind" = some (some (.ref f_need_kind))) (l_need_kind : K.lookup f_need_kind = some ⟨oc_need_kind, od_need_kind, .func (PySem.W.fnOf "need_kind" "need_kind" (defArgs s_need_kind) (defBody s_need_kind) (defScope s_need_kind) .none kV_need_kind dc_need_kind pm_need_kind an_need_kind cd_need_kind ct_need_kind), sl_need_kind⟩) (c_need_kind : PySem.W.codeIn K cd_need_kind "need_kind" = true) (k_need_kind : PySem.W.keepIn K (.ref f_need_kind) = true)
    (a_written : PySem.W.nsIn K mainGlobals "written" = some (some (.ref f_written))) (l_written : K.lookup f_written = some ⟨oc_written, od_written, .func (PySem.W.fnOf "written" "written" (defArgs s_written) (defBody s_written) (defScope s_written) .none kV_written dc_written pm_written an_written cd_written ct_written), sl_written⟩) (c_written : PySem.W.codeIn K cd_written "written" = true) (k_written : PySem.W.keepIn K (.ref f_written) = true)
    (a_kind_text : PySem.W.nsIn K mainGlobals "kind_text" = some (some (.ref f_kind_text))) (l_kind_text : K.lookup f_kind_text = some ⟨oc_kind_text, od_kind_text, .func (PySem.W.fnOf "kind_text" "kind_text" (defArgs s_kind_text) (defBody s_kind_text) (defScope s_kind_text) .none kV_kind_text dc_kind_text pm_kind_text an_kind_text cd_kind_text ct_kind_text), sl_kind_text⟩) (c_kind_text : PySem.W.codeIn K cd_kind_text "kind_text" = true) (k_kind_text : PySem.W.keepIn K (.ref f_kind_text) = true)
    (a_is_piece : PySem.W.nsIn K mainGlobals "is_piece" = some (some (.ref f_is_piece))) (l_is_piece : K.lookup f_is_piece = some ⟨oc_is_piece, od_is_piece, .func (PySem.W.fnOf "is_piece" "is_piece" (defArgs s_is_piece) (defBody s_is_piece) (defScope s_is_piece) .none kV_is_piece dc_is_piece pm_is_piece an_is_piece cd_is_piece ct_is_piece), sl_is_piece⟩) (c_is_piece : PySem.W.codeIn K cd_is_piece "is_piece" = true) (k_is_piece : PySem.W.keepIn K (.ref f_is_piece) = true)
    (a_pieces_of_parts : PySem.W.nsIn K mainGlobals "pieces_of_parts" = some (some (.ref f_pieces_of_parts))) (l_pieces_of_parts : K.lookup f_pieces_of_parts = some ⟨oc_pieces_of_parts, od_pieces_of_parts, .func (PySem.W.fnOf "pieces_of_parts" "pieces_of_parts" (defArgs s_pieces_of_parts) (defBody s_pieces_of_parts) (defScope s_pieces_of_parts) .none kV_pieces_of_parts dc_pieces_of_parts pm_pieces_of_parts an_pieces_of_parts cd_pieces_of_parts ct_pieces_of_parts), sl_pieces_of_parts⟩) (c_pieces_of_parts : PySem.W.codeIn K cd_pieces_of_parts "pieces_of_parts" = true) (k_pieces_of_parts : PySem.W.keepIn K (.ref f_pieces_of_parts) = true)
    (a_pieces_in : PySem.W.nsIn K mainGlobals "pieces_in" = some (some (.ref f_pieces_in))) (l_pieces_in : K.lookup f_pieces_in = some ⟨oc_pieces_in, od_pieces_in, .func (PySem.W.fnOf "pieces_in" "pieces_in" (defArgs s_pieces_in) (defBody s_pieces_in) (defScope s_pieces_in) .none kV_pieces_in dc_pieces_in pm_pieces_in an_pieces_in cd_pieces_in ct_pieces_in), sl_pieces_in⟩) (c_pieces_in : PySem.W.codeIn K cd_pieces_in "pieces_in" = true) (k_pieces_in : PySem.W.keepIn K (.ref f_pieces_in) = true)
    (a_is_condition : PySem.W.nsIn K mainGlobals "is_condition" = some (some (.ref f_is_condition))) (l_is_condition : K.lookup f_is_condition = some ⟨oc_is_condition, od_is_condition, .func (PySem.W.fnOf "is_condition" "is_condition" (defArgs s_is_condition) (defBody s_is_condition) (defScope s_is_condition) .none kV_is_condition dc_is_condition pm_is_condition an_is_condition cd_is_condition ct_is_condition), sl_is_condition⟩) (c_is_condition : PySem.W.codeIn K cd_is_condition "is_condition" = true) (k_is_condition : PySem.W.keepIn K (.ref f_is_condition) = true)
    (a_need_condition : PySem.W.nsIn K mainGlobals "need_condition" = some (some (.ref f_need_condition))) (l_need_condition : K.lookup f_need_condition = some ⟨oc_need_condition, od_need_condition, .func (PySem.W.fnOf "need_condition" "need_condition" (defArgs s_need_condition) (defBody s_need_condition) (defScope s_need_condition) .none kV_need_condition dc_need_condition pm_need_condition an_need_condition cd_need_condition ct_need_condition), sl_need_condition⟩) (c_need_condition : PySem.W.codeIn K cd_need_condition "need_condition" = true) (k_need_condition : PySem.W.keepIn K (.ref f_need_condition) = true)
    (a_worded : PySem.W.nsIn K mainGlobals "worded" = some (some (.ref f_worded))) (l_worded : K.lookup f_worded = some ⟨oc_worded, od_worded, .func (PySem.W.fnOf "worded" "worded" (defArgs s_worded) (defBody s_worded) (defScope s_worded) .none kV_worded dc_worded pm_worded an_worded cd_worded ct_worded), sl_worded⟩) (c_worded : PySem.W.codeIn K cd_worded "worded" = true) (k_worded : PySem.W.keepIn K (.ref f_worded) = true)
    (a_condition_text : PySem.W.nsIn K mainGlobals "condition_text" = some (some (.ref f_condition_text))) (l_condition_text : K.lookup f_condition_text = some ⟨oc_condition_text, od_condition_text, .func (PySem.W.fnOf "condition_text" "condition_text" (defArgs s_condition_text) (defBody s_condition_text) (defScope s_condition_text) .none kV_condition_text dc_condition_text pm_condition_text an_condition_text cd_condition_text ct_condition_text), sl_condition_text⟩) (c_condition_text : PySem.W.codeIn K cd_condition_text "condition_text" = true) (k_condition_text : PySem.W.keepIn K (.ref f_condition_text) = true)
    (a_Scope_init : PySem.W.findIn K (.ref C_Scope) "__init__" = some (some (.ref f_Scope_init))) (i_Scope_init : PySem.W.isFn K (.ref f_Scope_init) = true) (l_Scope_init : K.lookup f_Scope_init = some ⟨oc_Scope_init, od_Scope_init, .func (PySem.W.fnOf "__init__" "Scope.__init__" (defArgs s_Scope_init) (defBody s_Scope_init) (defScope s_Scope_init) .none kV_Scope_init dc_Scope_init pm_Scope_init an_Scope_init cd_Scope_init ct_Scope_init), sl_Scope_init⟩) (c_Scope_init : PySem.W.codeIn K cd_Scope_init "Scope.__init__" = true) (k_Scope_init : PySem.W.keepIn K (.ref f_Scope_init) = true)
    (a_Scope_own_round : PySem.W.findIn K (.ref C_Scope) "own_round" = some (some (.ref f_Scope_own_round))) (i_Scope_own_round : PySem.W.isFn K (.ref f_Scope_own_round) = true) (l_Scope_own_round : K.lookup f_Scope_own_round = some ⟨oc_Scope_own_round, od_Scope_own_round, .func (PySem.W.fnOf "own_round" "Scope.own_round" (defArgs s_Scope_own_round) (defBody s_Scope_own_round) (defScope s_Scope_own_round) .none kV_Scope_own_round dc_Scope_own_round pm_Scope_own_round an_Scope_own_round cd_Scope_own_round ct_Scope_own_round), sl_Scope_own_round⟩) (c_Scope_own_round : PySem.W.codeIn K cd_Scope_own_round "Scope.own_round" = true) (k_Scope_own_round : PySem.W.keepIn K (.ref f_Scope_own_round) = true)
    (a_Scope_is_new : PySem.W.findIn K (.ref C_Scope) "is_new" = some (some (.ref f_Scope_is_new))) (i_Scope_is_new : PySem.W.isFn K (.ref f_Scope_is_new) = true) (l_Scope_is_new : K.lookup f_Scope_is_new = some ⟨oc_Scope_is_new, od_Scope_is_new, .func (PySem.W.fnOf "is_new" "Scope.is_new" (defArgs s_Scope_is_new) (defBody s_Scope_is_new) (defScope s_Scope_is_new) .none kV_Scope_is_new dc_Scope_is_new pm_Scope_is_new an_Scope_is_new cd_Scope_is_new ct_Scope_is_new), sl_Scope_is_new⟩) (c_Scope_is_new : PySem.W.codeIn K cd_Scope_is_new "Scope.is_new" = true) (k_Scope_is_new : PySem.W.keepIn K (.ref f_Scope_is_new) = true)
    (a_Scope_knows_piece : PySem.W.findIn K (.ref C_Scope) "knows_piece" = some (some (.ref f_Scope_knows_piece))) (i_Scope_knows_piece : PySem.W.isFn K (.ref f_Scope_knows_piece) = true) (l_Scope_knows_piece : K.lookup f_Scope_knows_piece = some ⟨oc_Scope_knows_piece, od_Scope_knows_piece, .func (PySem.W.fnOf "knows_piece" "Scope.knows_piece" (defArgs s_Scope_knows_piece) (defBody s_Scope_knows_piece) (defScope s_Scope_knows_piece) .none kV_Scope_knows_piece dc_Scope_knows_piece pm_Scope_knows_piece an_Scope_knows_piece cd_Scope_knows_piece ct_Scope_knows_piece), sl_Scope_knows_piece⟩) (c_Scope_knows_piece : PySem.W.codeIn K cd_Scope_knows_piece "Scope.knows_piece" = true) (k_Scope_knows_piece : PySem.W.keepIn K (.ref f_Scope_knows_piece) = true)
    (a_Scope_knows_within : PySem.W.findIn K (.ref C_Scope) "knows_within" = some (some (.ref f_Scope_knows_within))) (i_Scope_knows_within : PySem.W.isFn K (.ref f_Scope_knows_within) = true) (l_Scope_knows_within : K.lookup f_Scope_knows_within = some ⟨oc_Scope_knows_within, od_Scope_knows_within, .func (PySem.W.fnOf "knows_within" "Scope.knows_within" (defArgs s_Scope_knows_within) (defBody s_Scope_knows_within) (defScope s_Scope_knows_within) .none kV_Scope_knows_within dc_Scope_knows_within pm_Scope_knows_within an_Scope_knows_within cd_Scope_knows_within ct_Scope_knows_within), sl_Scope_knows_within⟩) (c_Scope_knows_within : PySem.W.codeIn K cd_Scope_knows_within "Scope.knows_within" = true) (k_Scope_knows_within : PySem.W.keepIn K (.ref f_Scope_knows_within) = true)
    (a_Scope_knows : PySem.W.findIn K (.ref C_Scope) "knows" = some (some (.ref f_Scope_knows))) (i_Scope_knows : PySem.W.isFn K (.ref f_Scope_knows) = true) (l_Scope_knows : K.lookup f_Scope_knows = some ⟨oc_Scope_knows, od_Scope_knows, .func (PySem.W.fnOf "knows" "Scope.knows" (defArgs s_Scope_knows) (defBody s_Scope_knows) (defScope s_Scope_knows) .none kV_Scope_knows dc_Scope_knows pm_Scope_knows an_Scope_knows cd_Scope_knows ct_Scope_knows), sl_Scope_knows⟩) (c_Scope_knows : PySem.W.codeIn K cd_Scope_knows "Scope.knows" = true) (k_Scope_knows : PySem.W.keepIn K (.ref f_Scope_knows) = true)
    (a_Scope_take_ask : PySem.W.findIn K (.ref C_Scope) "take_ask" = some (some (.ref f_Scope_take_ask))) (i_Scope_take_ask : PySem.W.isFn K (.ref f_Scope_take_ask) = true) (l_Scope_take_ask : K.lookup f_Scope_take_ask = some ⟨oc_Scope_take_ask, od_Scope_take_ask, .func (PySem.W.fnOf "take_ask" "Scope.take_ask" (defArgs s_Scope_take_ask) (defBody s_Scope_take_ask) (defScope s_Scope_take_ask) .none kV_Scope_take_ask dc_Scope_take_ask pm_Scope_take_ask an_Scope_take_ask cd_Scope_take_ask ct_Scope_take_ask), sl_Scope_take_ask⟩) (c_Scope_take_ask : PySem.W.codeIn K cd_Scope_take_ask "Scope.take_ask" = true) (k_Scope_take_ask : PySem.W.keepIn K (.ref f_Scope_take_ask) = true)
    (a_Scope_take_part : PySem.W.findIn K (.ref C_Scope) "take_part" = some (some (.ref f_Scope_take_part))) (i_Scope_take_part : PySem.W.isFn K (.ref f_Scope_take_part) = true) (l_Scope_take_part : K.lookup f_Scope_take_part = some ⟨oc_Scope_take_part, od_Scope_take_part, .func (PySem.W.fnOf "take_part" "Scope.take_part" (defArgs s_Scope_take_part) (defBody s_Scope_take_part) (defScope s_Scope_take_part) .none kV_Scope_take_part dc_Scope_take_part pm_Scope_take_part an_Scope_take_part cd_Scope_take_part ct_Scope_take_part), sl_Scope_take_part⟩) (c_Scope_take_part : PySem.W.codeIn K cd_Scope_take_part "Scope.take_part" = true) (k_Scope_take_part : PySem.W.keepIn K (.ref f_Scope_take_part) = true)
    (a_Scope_take_each : PySem.W.findIn K (.ref C_Scope) "take_each" = some (some (.ref f_Scope_take_each))) (i_Scope_take_each : PySem.W.isFn K (.ref f_Scope_take_each) = true) (l_Scope_take_each : K.lookup f_Scope_take_each = some ⟨oc_Scope_take_each, od_Scope_take_each, .func (PySem.W.fnOf "take_each" "Scope.take_each" (defArgs s_Scope_take_each) (defBody s_Scope_take_each) (defScope s_Scope_take_each) .none kV_Scope_take_each dc_Scope_take_each pm_Scope_take_each an_Scope_take_each cd_Scope_take_each ct_Scope_take_each), sl_Scope_take_each⟩) (c_Scope_take_each : PySem.W.codeIn K cd_Scope_take_each "Scope.take_each" = true) (k_Scope_take_each : PySem.W.keepIn K (.ref f_Scope_take_each) = true)
    (a_Scope_take_if : PySem.W.findIn K (.ref C_Scope) "take_if" = some (some (.ref f_Scope_take_if))) (i_Scope_take_if : PySem.W.isFn K (.ref f_Scope_take_if) = true) (l_Scope_take_if : K.lookup f_Scope_take_if = some ⟨oc_Scope_take_if, od_Scope_take_if, .func (PySem.W.fnOf "take_if" "Scope.take_if" (defArgs s_Scope_take_if) (defBody s_Scope_take_if) (defScope s_Scope_take_if) .none kV_Scope_take_if dc_Scope_take_if pm_Scope_take_if an_Scope_take_if cd_Scope_take_if ct_Scope_take_if), sl_Scope_take_if⟩) (c_Scope_take_if : PySem.W.codeIn K cd_Scope_take_if "Scope.take_if" = true) (k_Scope_take_if : PySem.W.keepIn K (.ref f_Scope_take_if) = true)
    (a_Scope_take_leave : PySem.W.findIn K (.ref C_Scope) "take_leave" = some (some (.ref f_Scope_take_leave))) (i_Scope_take_leave : PySem.W.isFn K (.ref f_Scope_take_leave) = true) (l_Scope_take_leave : K.lookup f_Scope_take_leave = some ⟨oc_Scope_take_leave, od_Scope_take_leave, .func (PySem.W.fnOf "take_leave" "Scope.take_leave" (defArgs s_Scope_take_leave) (defBody s_Scope_take_leave) (defScope s_Scope_take_leave) .none kV_Scope_take_leave dc_Scope_take_leave pm_Scope_take_leave an_Scope_take_leave cd_Scope_take_leave ct_Scope_take_leave), sl_Scope_take_leave⟩) (c_Scope_take_leave : PySem.W.codeIn K cd_Scope_take_leave "Scope.take_leave" = true) (k_Scope_take_leave : PySem.W.keepIn K (.ref f_Scope_take_leave) = true)
    (a_Scope_takes : PySem.W.findIn K (.ref C_Scope) "takes" = some (some (.ref f_Scope_takes))) (i_Scope_takes : PySem.W.isFn K (.ref f_Scope_takes) = true) (l_Scope_takes : K.lookup f_Scope_takes = some ⟨oc_Scope_takes, od_Scope_takes, .func (PySem.W.fnOf "takes" "Scope.takes" (defArgs s_Scope_takes) (defBody s_Scope_takes) (defScope s_Scope_takes) .none kV_Scope_takes dc_Scope_takes pm_Scope_takes an_Scope_takes cd_Scope_takes ct_Scope_takes), sl_Scope_takes⟩) (c_Scope_takes : PySem.W.codeIn K cd_Scope_takes "Scope.takes" = true) (k_Scope_takes : PySem.W.keepIn K (.ref f_Scope_takes) = true)
    (a_Scope_close : PySem.W.findIn K (.ref C_Scope) "close" = some (some (.ref f_Scope_close))) (i_Scope_close : PySem.W.isFn K (.ref f_Scope_close) = true) (l_Scope_close : K.lookup f_Scope_close = some ⟨oc_Scope_close, od_Scope_close, .func (PySem.W.fnOf "close" "Scope.close" (defArgs s_Scope_close) (defBody s_Scope_close) (defScope s_Scope_close) .none kV_Scope_close dc_Scope_close pm_Scope_close an_Scope_close cd_Scope_close ct_Scope_close), sl_Scope_close⟩) (c_Scope_close : PySem.W.codeIn K cd_Scope_close "Scope.close" = true) (k_Scope_close : PySem.W.keepIn K (.ref f_Scope_close) = true)
    (a_heads_and_steps : PySem.W.nsIn K mainGlobals "heads_and_steps" = some (some (.ref f_heads_and_steps))) (l_heads_and_steps : K.lookup f_heads_and_steps = some ⟨oc_heads_and_steps, od_heads_and_steps, .func (PySem.W.fnOf "heads_and_steps" "heads_and_steps" (defArgs s_heads_and_steps) (defBody s_heads_and_steps) (defScope s_heads_and_steps) .none kV_heads_and_steps dc_heads_and_steps pm_heads_and_steps an_heads_and_steps cd_heads_and_steps ct_heads_and_steps), sl_heads_and_steps⟩) (c_heads_and_steps : PySem.W.codeIn K cd_heads_and_steps "heads_and_steps" = true) (k_heads_and_steps : PySem.W.keepIn K (.ref f_heads_and_steps) = true)
    (a_step_fits : PySem.W.nsIn K mainGlobals "step_fits" = some (some (.ref f_step_fits))) (l_step_fits : K.lookup f_step_fits = some ⟨oc_step_fits, od_step_fits, .func (PySem.W.fnOf "step_fits" "step_fits" (defArgs s_step_fits) (defBody s_step_fits) (defScope s_step_fits) .none kV_step_fits dc_step_fits pm_step_fits an_step_fits cd_step_fits ct_step_fits), sl_step_fits⟩) (c_step_fits : PySem.W.codeIn K cd_step_fits "step_fits" = true) (k_step_fits : PySem.W.keepIn K (.ref f_step_fits) = true)
    (a_steps_fit : PySem.W.nsIn K mainGlobals "steps_fit" = some (some (.ref f_steps_fit))) (l_steps_fit : K.lookup f_steps_fit = some ⟨oc_steps_fit, od_steps_fit, .func (PySem.W.fnOf "steps_fit" "steps_fit" (defArgs s_steps_fit) (defBody s_steps_fit) (defScope s_steps_fit) .none kV_steps_fit dc_steps_fit pm_steps_fit an_steps_fit cd_steps_fit ct_steps_fit), sl_steps_fit⟩) (c_steps_fit : PySem.W.codeIn K cd_steps_fit "steps_fit" = true) (k_steps_fit : PySem.W.keepIn K (.ref f_steps_fit) = true)
    (a_is_form : PySem.W.nsIn K mainGlobals "is_form" = some (some (.ref f_is_form))) (l_is_form : K.lookup f_is_form = some ⟨oc_is_form, od_is_form, .func (PySem.W.fnOf "is_form" "is_form" (defArgs s_is_form) (defBody s_is_form) (defScope s_is_form) .none kV_is_form dc_is_form pm_is_form an_is_form cd_is_form ct_is_form), sl_is_form⟩) (c_is_form : PySem.W.codeIn K cd_is_form "is_form" = true) (k_is_form : PySem.W.keepIn K (.ref f_is_form) = true)
    (a_need_form : PySem.W.nsIn K mainGlobals "need_form" = some (some (.ref f_need_form))) (l_need_form : K.lookup f_need_form = some ⟨oc_need_form, od_need_form, .func (PySem.W.fnOf "need_form" "need_form" (defArgs s_need_form) (defBody s_need_form) (defScope s_need_form) .none kV_need_form dc_need_form pm_need_form an_need_form cd_need_form ct_need_form), sl_need_form⟩) (c_need_form : PySem.W.codeIn K cd_need_form "need_form" = true) (k_need_form : PySem.W.keepIn K (.ref f_need_form) = true)
    (a_block_rows : PySem.W.nsIn K mainGlobals "block_rows" = some (some (.ref f_block_rows))) (l_block_rows : K.lookup f_block_rows = some ⟨oc_block_rows, od_block_rows, .func (PySem.W.fnOf "block_rows" "block_rows" (defArgs s_block_rows) (defBody s_block_rows) (defScope s_block_rows) .none kV_block_rows dc_block_rows pm_block_rows an_block_rows cd_block_rows ct_block_rows), sl_block_rows⟩) (c_block_rows : PySem.W.codeIn K cd_block_rows "block_rows" = true) (k_block_rows : PySem.W.keepIn K (.ref f_block_rows) = true)
    (a_step_rows : PySem.W.nsIn K mainGlobals "step_rows" = some (some (.ref f_step_rows))) (l_step_rows : K.lookup f_step_rows = some ⟨oc_step_rows, od_step_rows, .func (PySem.W.fnOf "step_rows" "step_rows" (defArgs s_step_rows) (defBody s_step_rows) (defScope s_step_rows) .none kV_step_rows dc_step_rows pm_step_rows an_step_rows cd_step_rows ct_step_rows), sl_step_rows⟩) (c_step_rows : PySem.W.codeIn K cd_step_rows "step_rows" = true) (k_step_rows : PySem.W.keepIn K (.ref f_step_rows) = true)
    (a_rows_of : PySem.W.nsIn K mainGlobals "rows_of" = some (some (.ref f_rows_of))) (l_rows_of : K.lookup f_rows_of = some ⟨oc_rows_of, od_rows_of, .func (PySem.W.fnOf "rows_of" "rows_of" (defArgs s_rows_of) (defBody s_rows_of) (defScope s_rows_of) .none kV_rows_of dc_rows_of pm_rows_of an_rows_of cd_rows_of ct_rows_of), sl_rows_of⟩) (c_rows_of : PySem.W.codeIn K cd_rows_of "rows_of" = true) (k_rows_of : PySem.W.keepIn K (.ref f_rows_of) = true)
    (a_form_text : PySem.W.nsIn K mainGlobals "form_text" = some (some (.ref f_form_text))) (l_form_text : K.lookup f_form_text = some ⟨oc_form_text, od_form_text, .func (PySem.W.fnOf "form_text" "form_text" (defArgs s_form_text) (defBody s_form_text) (defScope s_form_text) .none kV_form_text dc_form_text pm_form_text an_form_text cd_form_text ct_form_text), sl_form_text⟩) (c_form_text : PySem.W.codeIn K cd_form_text "form_text" = true) (k_form_text : PySem.W.keepIn K (.ref f_form_text) = true)
    (a_L_pot : PySem.W.nsIn K mainGlobals "_law_pot" = some (some (.ref f_L_pot))) (l_L_pot : K.lookup f_L_pot = some ⟨oc_L_pot, od_L_pot, .func (PySem.W.fnOf "_law_pot" "_law_pot" (defArgs s_L_pot) (defBody s_L_pot) (defScope s_L_pot) .none kV_L_pot dc_L_pot pm_L_pot an_L_pot cd_L_pot ct_L_pot), sl_L_pot⟩) (c_L_pot : PySem.W.codeIn K cd_L_pot "_law_pot" = true) (k_L_pot : PySem.W.keepIn K (.ref f_L_pot) = true)
    (a_L_take : PySem.W.nsIn K mainGlobals "_law_take" = some (some (.ref f_L_take))) (l_L_take : K.lookup f_L_take = some ⟨oc_L_take, od_L_take, .func (PySem.W.fnOf "_law_take" "_law_take" (defArgs s_L_take) (defBody s_L_take) (defScope s_L_take) .none kV_L_take dc_L_take pm_L_take an_L_take cd_L_take ct_L_take), sl_L_take⟩) (c_L_take : PySem.W.codeIn K cd_L_take "_law_take" = true) (k_L_take : PySem.W.keepIn K (.ref f_L_take) = true)
    (a_L_name : PySem.W.nsIn K mainGlobals "_law_name" = some (some (.ref f_L_name))) (l_L_name : K.lookup f_L_name = some ⟨oc_L_name, od_L_name, .func (PySem.W.fnOf "_law_name" "_law_name" (defArgs s_L_name) (defBody s_L_name) (defScope s_L_name) .none kV_L_name dc_L_name pm_L_name an_L_name cd_L_name ct_L_name), sl_L_name⟩) (c_L_name : PySem.W.codeIn K cd_L_name "_law_name" = true) (k_L_name : PySem.W.keepIn K (.ref f_L_name) = true)
    (a_L_options : PySem.W.nsIn K mainGlobals "_law_options" = some (some (.ref f_L_options))) (l_L_options : K.lookup f_L_options = some ⟨oc_L_options, od_L_options, .func (PySem.W.fnOf "_law_options" "_law_options" (defArgs s_L_options) (defBody s_L_options) (defScope s_L_options) .none kV_L_options dc_L_options pm_L_options an_L_options cd_L_options ct_L_options), sl_L_options⟩) (c_L_options : PySem.W.codeIn K cd_L_options "_law_options" = true) (k_L_options : PySem.W.keepIn K (.ref f_L_options) = true)
    (a_L_kind : PySem.W.nsIn K mainGlobals "_law_kind" = some (some (.ref f_L_kind))) (l_L_kind : K.lookup f_L_kind = some ⟨oc_L_kind, od_L_kind, .func (PySem.W.fnOf "_law_kind" "_law_kind" (defArgs s_L_kind) (defBody s_L_kind) (defScope s_L_kind) .none kV_L_kind dc_L_kind pm_L_kind an_L_kind cd_L_kind ct_L_kind), sl_L_kind⟩) (c_L_kind : PySem.W.codeIn K cd_L_kind "_law_kind" = true) (k_L_kind : PySem.W.keepIn K (.ref f_L_kind) = true)
    (a_L_piece : PySem.W.nsIn K mainGlobals "_law_piece" = some (some (.ref f_L_piece))) (l_L_piece : K.lookup f_L_piece = some ⟨oc_L_piece, od_L_piece, .func (PySem.W.fnOf "_law_piece" "_law_piece" (defArgs s_L_piece) (defBody s_L_piece) (defScope s_L_piece) .none kV_L_piece dc_L_piece pm_L_piece an_L_piece cd_L_piece ct_L_piece), sl_L_piece⟩) (c_L_piece : PySem.W.codeIn K cd_L_piece "_law_piece" = true) (k_L_piece : PySem.W.keepIn K (.ref f_L_piece) = true)
    (a_L_condition : PySem.W.nsIn K mainGlobals "_law_condition" = some (some (.ref f_L_condition))) (l_L_condition : K.lookup f_L_condition = some ⟨oc_L_condition, od_L_condition, .func (PySem.W.fnOf "_law_condition" "_law_condition" (defArgs s_L_condition) (defBody s_L_condition) (defScope s_L_condition) .none kV_L_condition dc_L_condition pm_L_condition an_L_condition cd_L_condition ct_L_condition), sl_L_condition⟩) (c_L_condition : PySem.W.codeIn K cd_L_condition "_law_condition" = true) (k_L_condition : PySem.W.keepIn K (.ref f_L_condition) = true)
    (a_L_steps : PySem.W.nsIn K mainGlobals "_law_steps" = some (some (.ref f_L_steps))) (l_L_steps : K.lookup f_L_steps = some ⟨oc_L_steps, od_L_steps, .func (PySem.W.fnOf "_law_steps" "_law_steps" (defArgs s_L_steps) (defBody s_L_steps) (defScope s_L_steps) .none kV_L_steps dc_L_steps pm_L_steps an_L_steps cd_L_steps ct_L_steps), sl_L_steps⟩) (c_L_steps : PySem.W.codeIn K cd_L_steps "_law_steps" = true) (k_L_steps : PySem.W.keepIn K (.ref f_L_steps) = true)
    (a_L_step : PySem.W.nsIn K mainGlobals "_law_step" = some (some (.ref f_L_step))) (l_L_step : K.lookup f_L_step = some ⟨oc_L_step, od_L_step, .func (PySem.W.fnOf "_law_step" "_law_step" (defArgs s_L_step) (defBody s_L_step) (defScope s_L_step) .none kV_L_step dc_L_step pm_L_step an_L_step cd_L_step ct_L_step), sl_L_step⟩) (c_L_step : PySem.W.codeIn K cd_L_step "_law_step" = true) (k_L_step : PySem.W.keepIn K (.ref f_L_step) = true)
    (a_L_form : PySem.W.nsIn K mainGlobals "_law_form" = some (some (.ref f_L_form))) (l_L_form : K.lookup f_L_form = some ⟨oc_L_form, od_L_form, .func (PySem.W.fnOf "_law_form" "_law_form" (defArgs s_L_form) (defBody s_L_form) (defScope s_L_form) .none kV_L_form dc_L_form pm_L_form an_L_form cd_L_form ct_L_form), sl_L_form⟩) (c_L_form : PySem.W.codeIn K cd_L_form "_law_form" = true) (k_L_form : PySem.W.keepIn K (.ref f_L_form) = true)
    (a_L_kind_text : PySem.W.nsIn K mainGlobals "_law_kind_text" = some (some (.ref f_L_kind_text))) (l_L_kind_text : K.lookup f_L_kind_text = some ⟨oc_L_kind_text, od_L_kind_text, .func (PySem.W.fnOf "_law_kind_text" "_law_kind_text" (defArgs s_L_kind_text) (defBody s_L_kind_text) (defScope s_L_kind_text) .none kV_L_kind_text dc_L_kind_text pm_L_kind_text an_L_kind_text cd_L_kind_text ct_L_kind_text), sl_L_kind_text⟩) (c_L_kind_text : PySem.W.codeIn K cd_L_kind_text "_law_kind_text" = true) (k_L_kind_text : PySem.W.keepIn K (.ref f_L_kind_text) = true)
    (a_L_condition_text : PySem.W.nsIn K mainGlobals "_law_condition_text" = some (some (.ref f_L_condition_text))) (l_L_condition_text : K.lookup f_L_condition_text = some ⟨oc_L_condition_text, od_L_condition_text, .func (PySem.W.fnOf "_law_condition_text" "_law_condition_text" (defArgs s_L_condition_text) (defBody s_L_condition_text) (defScope s_L_condition_text) .none kV_L_condition_text dc_L_condition_text pm_L_condition_text an_L_condition_text cd_L_condition_text ct_L_condition_text), sl_L_condition_text⟩) (c_L_condition_text : PySem.W.codeIn K cd_L_condition_text "_law_condition_text" = true) (k_L_condition_text : PySem.W.keepIn K (.ref f_L_condition_text) = true)
    (a_L_rows : PySem.W.nsIn K mainGlobals "_law_rows" = some (some (.ref f_L_rows))) (l_L_rows : K.lookup f_L_rows = some ⟨oc_L_rows, od_L_rows, .func (PySem.W.fnOf "_law_rows" "_law_rows" (defArgs s_L_rows) (defBody s_L_rows) (defScope s_L_rows) .none kV_L_rows dc_L_rows pm_L_rows an_L_rows cd_L_rows ct_L_rows), sl_L_rows⟩) (c_L_rows : PySem.W.codeIn K cd_L_rows "_law_rows" = true) (k_L_rows : PySem.W.keepIn K (.ref f_L_rows) = true)
    (a_law : PySem.W.nsIn K mainGlobals "law" = some (some (.ref f_law))) (l_law : K.lookup f_law = some ⟨oc_law, od_law, .func (PySem.W.fnOf "law" "law" (defArgs s_law) (defBody s_law) (defScope s_law) .none kV_law dc_law pm_law an_law cd_law ct_law), sl_law⟩) (c_law : PySem.W.codeIn K cd_law "law" = true) (k_law : PySem.W.keepIn K (.ref f_law) = true)
    (z_isinstance : PySem.W.nsIn K mainGlobals "isinstance" = some none)
    (z_int : PySem.W.nsIn K mainGlobals "int" = some none)
    (z_bool : PySem.W.nsIn K mainGlobals "bool" = some none)
    (z_all : PySem.W.nsIn K mainGlobals "all" = some none)
    (z_str : PySem.W.nsIn K mainGlobals "str" = some none)
    (z_len : PySem.W.nsIn K mainGlobals "len" = some none)
    (z_tuple : PySem.W.nsIn K mainGlobals "tuple" = some none)
    (z_set : PySem.W.nsIn K mainGlobals "set" = some none)
    (z_sum : PySem.W.nsIn K mainGlobals "sum" = some none)
    (z_abs : PySem.W.nsIn K mainGlobals "abs" = some none)
    (z_range : PySem.W.nsIn K mainGlobals "range" = some none)
    (z_min : PySem.W.nsIn K mainGlobals "min" = some none)
    (z_max : PySem.W.nsIn K mainGlobals "max" = some none)
    (w_MOST_NUMBER : PySem.W.nsIn K mainGlobals "MOST_NUMBER" = some (some u_MOST_NUMBER)) (r_MOST_NUMBER : chkD K 60 u_MOST_NUMBER k_MOST_NUMBER = true)
    (w_WORDS : PySem.W.nsIn K mainGlobals "WORDS" = some (some u_WORDS)) (r_WORDS : chkD K 60 u_WORDS k_WORDS = true)
    (w_MOST_LETTERS : PySem.W.nsIn K mainGlobals "MOST_LETTERS" = some (some u_MOST_LETTERS)) (r_MOST_LETTERS : chkD K 60 u_MOST_LETTERS k_MOST_LETTERS = true)
    (w_LETTERS : PySem.W.nsIn K mainGlobals "LETTERS" = some (some u_LETTERS)) (r_LETTERS : chkD K 60 u_LETTERS k_LETTERS = true)
    (w_MOST_OPTIONS : PySem.W.nsIn K mainGlobals "MOST_OPTIONS" = some (some u_MOST_OPTIONS)) (r_MOST_OPTIONS : chkD K 60 u_MOST_OPTIONS k_MOST_OPTIONS = true)
    (w_PIECES_conditions : PySem.W.nsIn K mainGlobals "PIECES_conditions" = some (some (.ref dt_PIECES_conditions))) (at_PIECES_conditions : K.lookup dt_PIECES_conditions = some ⟨.type "dict", none, .dict et_PIECES_conditions nt_PIECES_conditions, #[]⟩) (li_PIECES_conditions : PySem.W.KeysLit w.params et_PIECES_conditions.toList) (lo_PIECES_conditions : (dt_PIECES_conditions == sysModules) = false) (r_PIECES_conditions : chkK et_PIECES_conditions.toList ["is", "has", "from", "to"] = true)
    (w_MOST_PARTS : PySem.W.nsIn K mainGlobals "MOST_PARTS" = some (some u_MOST_PARTS)) (r_MOST_PARTS : chkD K 60 u_MOST_PARTS k_MOST_PARTS = true)
    (w_MOST_DEEP_conditions : PySem.W.nsIn K mainGlobals "MOST_DEEP_conditions" = some (some u_MOST_DEEP_conditions)) (r_MOST_DEEP_conditions : chkD K 60 u_MOST_DEEP_conditions k_MOST_DEEP_conditions = true)
    (w_MOST_PIECES : PySem.W.nsIn K mainGlobals "MOST_PIECES" = some (some u_MOST_PIECES)) (r_MOST_PIECES : chkD K 60 u_MOST_PIECES k_MOST_PIECES = true)
    (w_PIECES_trees : PySem.W.nsIn K mainGlobals "PIECES_trees" = some (some (.ref dt_PIECES_trees))) (at_PIECES_trees : K.lookup dt_PIECES_trees = some ⟨.type "dict", none, .dict et_PIECES_trees nt_PIECES_trees, #[]⟩) (li_PIECES_trees : PySem.W.KeysLit w.params et_PIECES_trees.toList) (lo_PIECES_trees : (dt_PIECES_trees == sysModules) = false) (r_PIECES_trees : chkK et_PIECES_trees.toList ["is", "has", "from", "to"] = true) (rv_PIECES_trees : chkKV K et_PIECES_trees.toList kv_PIECES_trees = true)
    (w_MOST_FOLK : PySem.W.nsIn K mainGlobals "MOST_FOLK" = some (some u_MOST_FOLK)) (r_MOST_FOLK : chkD K 60 u_MOST_FOLK k_MOST_FOLK = true)
    (w_MOST_STEPS : PySem.W.nsIn K mainGlobals "MOST_STEPS" = some (some u_MOST_STEPS)) (r_MOST_STEPS : chkD K 60 u_MOST_STEPS k_MOST_STEPS = true)
    (w_MOST_DEEP_trees : PySem.W.nsIn K mainGlobals "MOST_DEEP_trees" = some (some u_MOST_DEEP_trees)) (r_MOST_DEEP_trees : chkD K 60 u_MOST_DEEP_trees k_MOST_DEEP_trees = true)
    (w_PARTS : PySem.W.nsIn K mainGlobals "PARTS" = some (some (.ref dt_PARTS))) (at_PARTS : K.lookup dt_PARTS = some ⟨.type "dict", none, .dict et_PARTS nt_PARTS, #[]⟩) (li_PARTS : PySem.W.KeysLit w.params et_PARTS.toList) (lo_PARTS : (dt_PARTS == sysModules) = false) (rv_PARTS : chkKV K et_PARTS.toList kv_PARTS = true)
    (w_NoKind : PySem.W.nsIn K mainGlobals "NoKind" = some (some (.ref C_NoKind)))
    (w_NoCondition : PySem.W.nsIn K mainGlobals "NoCondition" = some (some (.ref C_NoCondition)))
    (kp_NoKind : PySem.W.keepIn K (.ref C_NoKind) = true)
    (xi_NoKind : PySem.W.excIn K C_NoKind [.type "ValueError", .type "Exception", .type "BaseException", .type "object"] "ValueError.__new__" = true)
    (ty_NoKind : PySem.W.typeIn K (.ref C_NoKind) = some (.type "type"))
    (hg_NoKind : PySem.W.findIn K (.ref C_NoKind) "__getattribute__" = some (some (.builtin "BaseException.__getattribute__")))
    (hk_NoKind : PySem.W.findIn K (.ref C_NoKind) "__getattr__" = some none)
    (hs_NoKind : PySem.W.subIn K (.ref C_NoKind) (.type "BaseException") = some true)
    (hd_NoKind : PySem.W.hasDictIn K C_NoKind = true)
    (ha_NoKind : PySem.W.findIn K (.ref C_NoKind) "__class__" = some (some (.builtin "object.__class__")))
    (hn_NoKind : PySem.W.specialIn K (.builtin "object.__class__") "__get__" = some (some (.builtin "getset_descriptor.__get__")))
    (ht_NoKind : PySem.W.takesIn K (.builtin "object.__class__") = some true)
    (hm_NoKind : PySem.W.mroIn K C_NoKind (.type "object") = some true)
    (kp_NoCondition : PySem.W.keepIn K (.ref C_NoCondition) = true)
    (xi_NoCondition : PySem.W.excIn K C_NoCondition [.type "ValueError", .type "Exception", .type "BaseException", .type "object"] "ValueError.__new__" = true)
    (ty_NoCondition : PySem.W.typeIn K (.ref C_NoCondition) = some (.type "type"))
    (hg_NoCondition : PySem.W.findIn K (.ref C_NoCondition) "__getattribute__" = some (some (.builtin "BaseException.__getattribute__")))
    (hk_NoCondition : PySem.W.findIn K (.ref C_NoCondition) "__getattr__" = some none)
    (hs_NoCondition : PySem.W.subIn K (.ref C_NoCondition) (.type "BaseException") = some true)
    (hd_NoCondition : PySem.W.hasDictIn K C_NoCondition = true)
    (ha_NoCondition : PySem.W.findIn K (.ref C_NoCondition) "__class__" = some (some (.builtin "object.__class__")))
    (hn_NoCondition : PySem.W.specialIn K (.builtin "object.__class__") "__get__" = some (some (.builtin "getset_descriptor.__get__")))
    (ht_NoCondition : PySem.W.takesIn K (.builtin "object.__class__") = some true)
    (hm_NoCondition : PySem.W.mroIn K C_NoCondition (.type "object") = some true) :
    ∃ fd : FuncData, (∀ (s : Shared) (v : Value), BindsTo s fd ⟨[v], []⟩ [("_law_script", v)]) ∧ ∀ base : Heap, K.In base → base.Ns mainGlobals mg → SysOk base → FnG ⟨l.prog, w, K, mg, base⟩ 60 fa fd ["_law_script"] spLaw := by
  have e := hfa.symm.trans (PySem.W.mg_of X G a_law)
  cases e
  refine ⟨PySem.W.fnOf "law" "law" (defArgs s_law) (defBody s_law) (defScope s_law) .none kV_law dc_law pm_law an_law cd_law ct_law, fun s v => .of_eq rfl, fun base _ _ hsy => ?_⟩
  have T : Txt ⟨l.prog, w, K, mg, base⟩ := ⟨hsy, ⟨⟨_, _, fun_mk (st := s_is_whole) l_is_whole c_is_whole k_is_whole, PySem.W.mg_of X G a_is_whole⟩⟩, ⟨⟨_, _, fun_mk (st := s_is_within) l_is_within c_is_within k_is_within, PySem.W.mg_of X G a_is_within⟩⟩, ⟨⟨_, _, fun_mk (st := s_is_number) l_is_number c_is_number k_is_number, PySem.W.mg_of X G a_is_number⟩⟩, ⟨⟨_, _, fun_mk (st := s_is_name) l_is_name c_is_name k_is_name, PySem.W.mg_of X G a_is_name⟩⟩, ⟨⟨_, _, fun_mk (st := s_are_options) l_are_options c_are_options k_are_options, PySem.W.mg_of X G a_are_options⟩⟩, ⟨⟨_, _, fun_mk (st := s_is_count) l_is_count c_is_count k_is_count, PySem.W.mg_of X G a_is_count⟩⟩, ⟨⟨_, _, fun_mk (st := s_is_kind) l_is_kind c_is_kind k_is_kind, PySem.W.mg_of X G a_is_kind⟩⟩, ⟨⟨_, _, fun_mk (st := s_need_kind) l_need_kind c_need_kind k_need_kind, PySem.W.mg_of X G a_need_kind⟩⟩, ⟨⟨_, _, fun_mk (st := s_written) l_written c_written k_written, PySem.W.mg_of X G a_written⟩⟩, ⟨⟨_, _, fun_mk (st := s_kind_text) l_kind_text c_kind_text k_kind_text, PySem.W.mg_of X G a_kind_text⟩⟩, ⟨⟨_, _, fun_mk (st := s_is_piece) l_is_piece c_is_piece k_is_piece, PySem.W.mg_of X G a_is_piece⟩⟩, ⟨⟨_, _, fun_mk (st := s_pieces_of_parts) l_pieces_of_parts c_pieces_of_parts k_pieces_of_parts, PySem.W.mg_of X G a_pieces_of_parts⟩⟩, ⟨⟨_, _, fun_mk (st := s_pieces_in) l_pieces_in c_pieces_in k_pieces_in, PySem.W.mg_of X G a_pieces_in⟩⟩, ⟨⟨_, _, fun_mk (st := s_is_condition) l_is_condition c_is_condition k_is_condition, PySem.W.mg_of X G a_is_condition⟩⟩, ⟨⟨_, _, fun_mk (st := s_need_condition) l_need_condition c_need_condition k_need_condition, PySem.W.mg_of X G a_need_condition⟩⟩, ⟨⟨_, _, fun_mk (st := s_worded) l_worded c_worded k_worded, PySem.W.mg_of X G a_worded⟩⟩, ⟨⟨_, _, fun_mk (st := s_condition_text) l_condition_text c_condition_text k_condition_text, PySem.W.mg_of X G a_condition_text⟩⟩, pli_of (PySem.W.mg_of X G w_Scope) (fun_mk (st := s_Scope_init) l_Scope_init c_Scope_init k_Scope_init) ⟨mk_Scope, a_Scope_init, i_Scope_init, kc_Scope⟩, plm_of (PySem.W.mg_of X G w_Scope) (fun_mk (st := s_Scope_own_round) l_Scope_own_round c_Scope_own_round k_Scope_own_round) ⟨a_Scope_own_round, i_Scope_own_round, k_Scope_own_round⟩, plm_of (PySem.W.mg_of X G w_Scope) (fun_mk (st := s_Scope_is_new) l_Scope_is_new c_Scope_is_new k_Scope_is_new) ⟨a_Scope_is_new, i_Scope_is_new, k_Scope_is_new⟩, plm_of (PySem.W.mg_of X G w_Scope) (fun_mk (st := s_Scope_knows_piece) l_Scope_knows_piece c_Scope_knows_piece k_Scope_knows_piece) ⟨a_Scope_knows_piece, i_Scope_knows_piece, k_Scope_knows_piece⟩, plm_of (PySem.W.mg_of X G w_Scope) (fun_mk (st := s_Scope_knows_within) l_Scope_knows_within c_Scope_knows_within k_Scope_knows_within) ⟨a_Scope_knows_within, i_Scope_knows_within, k_Scope_knows_within⟩, plm_of (PySem.W.mg_of X G w_Scope) (fun_mk (st := s_Scope_knows) l_Scope_knows c_Scope_knows k_Scope_knows) ⟨a_Scope_knows, i_Scope_knows, k_Scope_knows⟩, plm_of (PySem.W.mg_of X G w_Scope) (fun_mk (st := s_Scope_take_ask) l_Scope_take_ask c_Scope_take_ask k_Scope_take_ask) ⟨a_Scope_take_ask, i_Scope_take_ask, k_Scope_take_ask⟩, plm_of (PySem.W.mg_of X G w_Scope) (fun_mk (st := s_Scope_take_part) l_Scope_take_part c_Scope_take_part k_Scope_take_part) ⟨a_Scope_take_part, i_Scope_take_part, k_Scope_take_part⟩, plm_of (PySem.W.mg_of X G w_Scope) (fun_mk (st := s_Scope_take_each) l_Scope_take_each c_Scope_take_each k_Scope_take_each) ⟨a_Scope_take_each, i_Scope_take_each, k_Scope_take_each⟩, plm_of (PySem.W.mg_of X G w_Scope) (fun_mk (st := s_Scope_take_if) l_Scope_take_if c_Scope_take_if k_Scope_take_if) ⟨a_Scope_take_if, i_Scope_take_if, k_Scope_take_if⟩, plm_of (PySem.W.mg_of X G w_Scope) (fun_mk (st := s_Scope_take_leave) l_Scope_take_leave c_Scope_take_leave k_Scope_take_leave) ⟨a_Scope_take_leave, i_Scope_take_leave, k_Scope_take_leave⟩, plm_of (PySem.W.mg_of X G w_Scope) (fun_mk (st := s_Scope_takes) l_Scope_takes c_Scope_takes k_Scope_takes) ⟨a_Scope_takes, i_Scope_takes, k_Scope_takes⟩, plm_of (PySem.W.mg_of X G w_Scope) (fun_mk (st := s_Scope_close) l_Scope_close c_Scope_close k_Scope_close) ⟨a_Scope_close, i_Scope_close, k_Scope_close⟩, ⟨⟨_, _, fun_mk (st := s_heads_and_steps) l_heads_and_steps c_heads_and_steps k_heads_and_steps, PySem.W.mg_of X G a_heads_and_steps⟩⟩, ⟨⟨_, _, fun_mk (st := s_step_fits) l_step_fits c_step_fits k_step_fits, PySem.W.mg_of X G a_step_fits⟩⟩, ⟨⟨_, _, fun_mk (st := s_steps_fit) l_steps_fit c_steps_fit k_steps_fit, PySem.W.mg_of X G a_steps_fit⟩⟩, ⟨⟨_, _, fun_mk (st := s_is_form) l_is_form c_is_form k_is_form, PySem.W.mg_of X G a_is_form⟩⟩, ⟨⟨_, _, fun_mk (st := s_need_form) l_need_form c_need_form k_need_form, PySem.W.mg_of X G a_need_form⟩⟩, ⟨⟨_, _, fun_mk (st := s_block_rows) l_block_rows c_block_rows k_block_rows, PySem.W.mg_of X G a_block_rows⟩⟩, ⟨⟨_, _, fun_mk (st := s_step_rows) l_step_rows c_step_rows k_step_rows, PySem.W.mg_of X G a_step_rows⟩⟩, ⟨⟨_, _, fun_mk (st := s_rows_of) l_rows_of c_rows_of k_rows_of, PySem.W.mg_of X G a_rows_of⟩⟩, ⟨⟨_, _, fun_mk (st := s_form_text) l_form_text c_form_text k_form_text, PySem.W.mg_of X G a_form_text⟩⟩, ⟨⟨_, _, fun_mk (st := s_L_pot) l_L_pot c_L_pot k_L_pot, PySem.W.mg_of X G a_L_pot⟩⟩, ⟨⟨_, _, fun_mk (st := s_L_take) l_L_take c_L_take k_L_take, PySem.W.mg_of X G a_L_take⟩⟩, ⟨⟨_, _, fun_mk (st := s_L_name) l_L_name c_L_name k_L_name, PySem.W.mg_of X G a_L_name⟩⟩, ⟨⟨_, _, fun_mk (st := s_L_options) l_L_options c_L_options k_L_options, PySem.W.mg_of X G a_L_options⟩⟩, ⟨⟨_, _, fun_mk (st := s_L_kind) l_L_kind c_L_kind k_L_kind, PySem.W.mg_of X G a_L_kind⟩⟩, ⟨⟨_, _, fun_mk (st := s_L_piece) l_L_piece c_L_piece k_L_piece, PySem.W.mg_of X G a_L_piece⟩⟩, ⟨⟨_, _, fun_mk (st := s_L_condition) l_L_condition c_L_condition k_L_condition, PySem.W.mg_of X G a_L_condition⟩⟩, ⟨⟨_, _, fun_mk (st := s_L_steps) l_L_steps c_L_steps k_L_steps, PySem.W.mg_of X G a_L_steps⟩⟩, ⟨⟨_, _, fun_mk (st := s_L_step) l_L_step c_L_step k_L_step, PySem.W.mg_of X G a_L_step⟩⟩, ⟨⟨_, _, fun_mk (st := s_L_form) l_L_form c_L_form k_L_form, PySem.W.mg_of X G a_L_form⟩⟩, ⟨⟨_, _, fun_mk (st := s_L_kind_text) l_L_kind_text c_L_kind_text k_L_kind_text, PySem.W.mg_of X G a_L_kind_text⟩⟩, ⟨⟨_, _, fun_mk (st := s_L_condition_text) l_L_condition_text c_L_condition_text k_L_condition_text, PySem.W.mg_of X G a_L_condition_text⟩⟩, ⟨⟨_, _, fun_mk (st := s_L_rows) l_L_rows c_L_rows k_L_rows, PySem.W.mg_of X G a_L_rows⟩⟩, ⟨⟨_, _, fun_mk (st := s_law) l_law c_law k_law, PySem.W.mg_of X G a_law⟩⟩, cls_of (PySem.W.mg_of X G w_Scope) ⟨pg_Scope, hc_Scope, po_Scope, sa_Scope⟩, noat_of (PySem.W.mg_of X G w_Scope) no_asked_Scope, noat_of (PySem.W.mg_of X G w_Scope) no_named_Scope, noat_of (PySem.W.mg_of X G w_Scope) no_ended_Scope, noat_of (PySem.W.mg_of X G w_Scope) no_begun_Scope, noat_of (PySem.W.mg_of X G w_Scope) no_steps_Scope, PySem.W.mg_none_of X G z_isinstance, PySem.W.mg_none_of X G z_int, PySem.W.mg_none_of X G z_bool, PySem.W.mg_none_of X G z_all, PySem.W.mg_none_of X G z_str, PySem.W.mg_none_of X G z_len, PySem.W.mg_none_of X G z_tuple, PySem.W.mg_none_of X G z_set, PySem.W.mg_none_of X G z_sum, PySem.W.mg_none_of X G z_abs, PySem.W.mg_none_of X G z_range, PySem.W.mg_none_of X G z_min, PySem.W.mg_none_of X G z_max, ⟨⟨_, PySem.W.mg_of X G w_NoKind, kp_NoKind, xi_NoKind, ty_NoKind, ⟨hg_NoKind, hk_NoKind, hs_NoKind, hd_NoKind, ha_NoKind, hn_NoKind, ht_NoKind, hm_NoKind⟩⟩⟩, ⟨⟨_, PySem.W.mg_of X G w_NoCondition, kp_NoCondition, xi_NoCondition, ty_NoCondition, ⟨hg_NoCondition, hk_NoCondition, hs_NoCondition, hd_NoCondition, ha_NoCondition, hn_NoCondition, ht_NoCondition, hm_NoCondition⟩⟩⟩, ⟨_, kval_of (PySem.W.mg_of X G w_PIECES_trees) at_PIECES_trees li_PIECES_trees lo_PIECES_trees rv_PIECES_trees⟩, ⟨_, kval_of (PySem.W.mg_of X G w_PARTS) at_PARTS li_PARTS lo_PARTS rv_PARTS⟩, cst_of (PySem.W.mg_of X G w_MOST_NUMBER) r_MOST_NUMBER, cst_of (PySem.W.mg_of X G w_WORDS) r_WORDS, cst_of (PySem.W.mg_of X G w_MOST_LETTERS) r_MOST_LETTERS, cst_of (PySem.W.mg_of X G w_LETTERS) r_LETTERS, cst_of (PySem.W.mg_of X G w_MOST_OPTIONS) r_MOST_OPTIONS, ⟨_, ktab_of (PySem.W.mg_of X G w_PIECES_conditions) at_PIECES_conditions li_PIECES_conditions lo_PIECES_conditions r_PIECES_conditions⟩, cst_of (PySem.W.mg_of X G w_MOST_PARTS) r_MOST_PARTS, cst_of (PySem.W.mg_of X G w_MOST_DEEP_conditions) r_MOST_DEEP_conditions, cst_of (PySem.W.mg_of X G w_MOST_PIECES) r_MOST_PIECES, ⟨_, ktab_of (PySem.W.mg_of X G w_PIECES_trees) at_PIECES_trees li_PIECES_trees lo_PIECES_trees r_PIECES_trees⟩, cst_of (PySem.W.mg_of X G w_MOST_FOLK) r_MOST_FOLK, cst_of (PySem.W.mg_of X G w_MOST_STEPS) r_MOST_STEPS, cst_of (PySem.W.mg_of X G w_MOST_DEEP_trees) r_MOST_DEEP_trees⟩
  exact law_ok T (fun_mk (st := s_law) l_law c_law k_law)
end Ms
open PySem PySem.W PyProof.Rows
set_option maxRecDepth 100000 in
set_option maxHeartbeats 0 in
theorem PySem.Challenge.cw_askround_k11_forms_written_holds : PySem.Challenge.rw_askround_k11_forms_written.Holds := by
  w_on; o_law; k_head; (case hw => w_witness2)
  k_fill
  refine Dl.law_walk (l := PySem.Challenge.rw_askround_k11_forms_written) (k := 60) (x := "_law_script") rfl rfl ⟨rfl, by decide, by decide⟩ (by first | rfl | decide +kernel) (fun w h Y => PySem.W.kIn_of Y) ?F
  case F =>
    intro w mg fa h KX G hmg
    refine' Ms.all_mk KX G hmg ?w_Scope ?pg_Scope ?hc_Scope ?po_Scope ?sa_Scope ?mk_Scope ?kc_Scope ?no_asked_Scope ?no_named_Scope ?no_ended_Scope ?no_begun_Scope ?no_steps_Scope ?a_is_whole ?l_is_whole ?c_is_whole ?k_is_whole ?a_is_within ?l_is_within ?c_is_within ?k_is_within ?a_is_number ?l_is_number ?c_is_number ?k_is_number ?a_is_name ?l_is_name ?c_is_name ?k_is_name ?a_are_options ?l_are_options ?c_are_options ?k_are_options ?a_is_count ?l_is_count ?c_is_count ?k_is_count ?a_is_kind ?l_is_kind ?c_is_kind ?k_is_kind ?a_need_kind ?l_need_kind ?c_need_kind ?k_need_kind ?a_written ?l_written ?c_written ?k_written ?a_kind_text ?l_kind_text ?c_kind_text ?k_kind_text ?a_is_piece ?l_is_piece ?c_is_piece ?k_is_piece ?a_pieces_of_parts ?l_pieces_of_parts ?c_pieces_of_parts ?k_pieces_of_parts ?a_pieces_in ?l_pieces_in ?c_pieces_in ?k_pieces_in ?a_is_condition ?l_is_condition ?c_is_condition ?k_is_condition ?a_need_condition ?l_need_condition ?c_need_condition ?k_need_condition ?a_worded ?l_worded ?c_worded ?k_worded ?a_condition_text ?l_condition_text ?c_condition_text ?k_condition_text ?a_Scope_init ?i_Scope_init ?l_Scope_init ?c_Scope_init ?k_Scope_init ?a_Scope_own_round ?i_Scope_own_round ?l_Scope_own_round ?c_Scope_own_round ?k_Scope_own_round ?a_Scope_is_new ?i_Scope_is_new ?l_Scope_is_new ?c_Scope_is_new ?k_Scope_is_new ?a_Scope_knows_piece ?i_Scope_knows_piece ?l_Scope_knows_piece ?c_Scope_knows_piece ?k_Scope_knows_piece ?a_Scope_knows_within ?i_Scope_knows_within ?l_Scope_knows_within ?c_Scope_knows_within ?k_Scope_knows_within ?a_Scope_knows ?i_Scope_knows ?l_Scope_knows ?c_Scope_knows ?k_Scope_knows ?a_Scope_take_ask ?i_Scope_take_ask ?l_Scope_take_ask ?c_Scope_take_ask ?k_Scope_take_ask ?a_Scope_take_part ?i_Scope_take_part ?l_Scope_take_part ?c_Scope_take_part ?k_Scope_take_part ?a_Scope_take_each ?i_Scope_take_each ?l_Scope_take_each ?c_Scope_take_each ?k_Scope_take_each ?a_Scope_take_if ?i_Scope_take_if ?l_Scope_take_if ?c_Scope_take_if ?k_Scope_take_if ?a_Scope_take_leave ?i_Scope_take_leave ?l_Scope_take_leave ?c_Scope_take_leave ?k_Scope_take_leave ?a_Scope_takes ?i_Scope_takes ?l_Scope_takes ?c_Scope_takes ?k_Scope_takes ?a_Scope_close ?i_Scope_close ?l_Scope_close ?c_Scope_close ?k_Scope_close ?a_heads_and_steps ?l_heads_and_steps ?c_heads_and_steps ?k_heads_and_steps ?a_step_fits ?l_step_fits ?c_step_fits ?k_step_fits ?a_steps_fit ?l_steps_fit ?c_steps_fit ?k_steps_fit ?a_is_form ?l_is_form ?c_is_form ?k_is_form ?a_need_form ?l_need_form ?c_need_form ?k_need_form ?a_block_rows ?l_block_rows ?c_block_rows ?k_block_rows ?a_step_rows ?l_step_rows ?c_step_rows ?k_step_rows ?a_rows_of ?l_rows_of ?c_rows_of ?k_rows_of ?a_form_text ?l_form_text ?c_form_text ?k_form_text ?a_L_pot ?l_L_pot ?c_L_pot ?k_L_pot ?a_L_take ?l_L_take ?c_L_take ?k_L_take ?a_L_name ?l_L_name ?c_L_name ?k_L_name ?a_L_options ?l_L_options ?c_L_options ?k_L_options ?a_L_kind ?l_L_kind ?c_L_kind ?k_L_kind ?a_L_piece ?l_L_piece ?c_L_piece ?k_L_piece ?a_L_condition ?l_L_condition ?c_L_condition ?k_L_condition ?a_L_steps ?l_L_steps ?c_L_steps ?k_L_steps ?a_L_step ?l_L_step ?c_L_step ?k_L_step ?a_L_form ?l_L_form ?c_L_form ?k_L_form ?a_L_kind_text ?l_L_kind_text ?c_L_kind_text ?k_L_kind_text ?a_L_condition_text ?l_L_condition_text ?c_L_condition_text ?k_L_condition_text ?a_L_rows ?l_L_rows ?c_L_rows ?k_L_rows ?a_law ?l_law ?c_law ?k_law ?z_isinstance ?z_int ?z_bool ?z_all ?z_str ?z_len ?z_tuple ?z_set ?z_sum ?z_abs ?z_range ?z_min ?z_max ?w_MOST_NUMBER ?r_MOST_NUMBER ?w_WORDS ?r_WORDS ?w_MOST_LETTERS ?r_MOST_LETTERS ?w_LETTERS ?r_LETTERS ?w_MOST_OPTIONS ?r_MOST_OPTIONS ?w_PIECES_conditions ?at_PIECES_conditions ?li_PIECES_conditions ?lo_PIECES_conditions ?r_PIECES_conditions ?w_MOST_PARTS ?r_MOST_PARTS ?w_MOST_DEEP_conditions ?r_MOST_DEEP_conditions ?w_MOST_PIECES ?r_MOST_PIECES ?w_PIECES_trees ?at_PIECES_trees ?li_PIECES_trees ?lo_PIECES_trees ?r_PIECES_trees ?rv_PIECES_trees ?w_MOST_FOLK ?r_MOST_FOLK ?w_MOST_STEPS ?r_MOST_STEPS ?w_MOST_DEEP_trees ?r_MOST_DEEP_trees ?w_PARTS ?at_PARTS ?li_PARTS ?lo_PARTS ?rv_PARTS ?w_NoKind ?w_NoCondition ?kp_NoKind ?xi_NoKind ?ty_NoKind ?hg_NoKind ?hk_NoKind ?hs_NoKind ?hd_NoKind ?ha_NoKind ?hn_NoKind ?ht_NoKind ?hm_NoKind ?kp_NoCondition ?xi_NoCondition ?ty_NoCondition ?hg_NoCondition ?hk_NoCondition ?hs_NoCondition ?hd_NoCondition ?ha_NoCondition ?hn_NoCondition ?ht_NoCondition ?hm_NoCondition
    (case w_Scope => k_is); (case pg_Scope => k_is); (case hc_Scope => k_is); (case po_Scope => k_is); (case sa_Scope => k_is); (case mk_Scope => k_is); (case kc_Scope => k_is); (case no_asked_Scope => k_is); (case no_named_Scope => k_is); (case no_ended_Scope => k_is); (case no_begun_Scope => k_is); (case no_steps_Scope => k_is); (case a_is_whole => k_is); (case l_is_whole => k_is); (case c_is_whole => k_is); (case k_is_whole => k_is); (case a_is_within => k_is); (case l_is_within => k_is); (case c_is_within => k_is); (case k_is_within => k_is); (case a_is_number => k_is); (case l_is_number => k_is); (case c_is_number => k_is); (case k_is_number => k_is); (case a_is_name => k_is); (case l_is_name => k_is); (case c_is_name => k_is); (case k_is_name => k_is); (case a_are_options => k_is); (case l_are_options => k_is); (case c_are_options => k_is); (case k_are_options => k_is); (case a_is_count => k_is); (case l_is_count => k_is); (case c_is_count => k_is); (case k_is_count => k_is); (case a_is_kind => k_is); (case l_is_kind => k_is); (case c_is_kind => k_is); (case k_is_kind => k_is); (case a_need_kind => k_is); (case l_need_kind => k_is); (case c_need_kind => k_is); (case k_need_kind => k_is); (case a_written => k_is); (case l_written => k_is); (case c_written => k_is); (case k_written => k_is); (case a_kind_text => k_is); (case l_kind_text => k_is); (case c_kind_text => k_is); (case k_kind_text => k_is); (case a_is_piece => k_is); (case l_is_piece => k_is); (case c_is_piece => k_is); (case k_is_piece => k_is); (case a_pieces_of_parts => k_is); (case l_pieces_of_parts => k_is); (case c_pieces_of_parts => k_is); (case k_pieces_of_parts => k_is); (case a_pieces_in => k_is); (case l_pieces_in => k_is); (case c_pieces_in => k_is); (case k_pieces_in => k_is); (case a_is_condition => k_is); (case l_is_condition => k_is); (case c_is_condition => k_is); (case k_is_condition => k_is); (case a_need_condition => k_is); (case l_need_condition => k_is); (case c_need_condition => k_is); (case k_need_condition => k_is); (case a_worded => k_is); (case l_worded => k_is); (case c_worded => k_is); (case k_worded => k_is); (case a_condition_text => k_is); (case l_condition_text => k_is); (case c_condition_text => k_is); (case k_condition_text => k_is); (case a_Scope_init => k_is); (case i_Scope_init => k_is); (case l_Scope_init => k_is); (case c_Scope_init => k_is); (case k_Scope_init => k_is); (case a_Scope_own_round => k_is); (case i_Scope_own_round => k_is); (case l_Scope_own_round => k_is); (case c_Scope_own_round => k_is); (case k_Scope_own_round => k_is); (case a_Scope_is_new => k_is); (case i_Scope_is_new => k_is); (case l_Scope_is_new => k_is); (case c_Scope_is_new => k_is); (case k_Scope_is_new => k_is); (case a_Scope_knows_piece => k_is); (case i_Scope_knows_piece => k_is); (case l_Scope_knows_piece => k_is); (case c_Scope_knows_piece => k_is); (case k_Scope_knows_piece => k_is); (case a_Scope_knows_within => k_is); (case i_Scope_knows_within => k_is); (case l_Scope_knows_within => k_is); (case c_Scope_knows_within => k_is); (case k_Scope_knows_within => k_is); (case a_Scope_knows => k_is); (case i_Scope_knows => k_is); (case l_Scope_knows => k_is); (case c_Scope_knows => k_is); (case k_Scope_knows => k_is); (case a_Scope_take_ask => k_is); (case i_Scope_take_ask => k_is); (case l_Scope_take_ask => k_is); (case c_Scope_take_ask => k_is); (case k_Scope_take_ask => k_is); (case a_Scope_take_part => k_is); (case i_Scope_take_part => k_is); (case l_Scope_take_part => k_is); (case c_Scope_take_part => k_is); (case k_Scope_take_part => k_is); (case a_Scope_take_each => k_is); (case i_Scope_take_each => k_is); (case l_Scope_take_each => k_is); (case c_Scope_take_each => k_is); (case k_Scope_take_each => k_is); (case a_Scope_take_if => k_is); (case i_Scope_take_if => k_is); (case l_Scope_take_if => k_is); (case c_Scope_take_if => k_is); (case k_Scope_take_if => k_is); (case a_Scope_take_leave => k_is); (case i_Scope_take_leave => k_is); (case l_Scope_take_leave => k_is); (case c_Scope_take_leave => k_is); (case k_Scope_take_leave => k_is); (case a_Scope_takes => k_is); (case i_Scope_takes => k_is); (case l_Scope_takes => k_is); (case c_Scope_takes => k_is); (case k_Scope_takes => k_is); (case a_Scope_close => k_is); (case i_Scope_close => k_is); (case l_Scope_close => k_is); (case c_Scope_close => k_is); (case k_Scope_close => k_is); (case a_heads_and_steps => k_is); (case l_heads_and_steps => k_is); (case c_heads_and_steps => k_is); (case k_heads_and_steps => k_is); (case a_step_fits => k_is); (case l_step_fits => k_is); (case c_step_fits => k_is); (case k_step_fits => k_is); (case a_steps_fit => k_is); (case l_steps_fit => k_is); (case c_steps_fit => k_is); (case k_steps_fit => k_is); (case a_is_form => k_is); (case l_is_form => k_is); (case c_is_form => k_is); (case k_is_form => k_is); (case a_need_form => k_is); (case l_need_form => k_is); (case c_need_form => k_is); (case k_need_form => k_is); (case a_block_rows => k_is); (case l_block_rows => k_is); (case c_block_rows => k_is); (case k_block_rows => k_is); (case a_step_rows => k_is); (case l_step_rows => k_is); (case c_step_rows => k_is); (case k_step_rows => k_is); (case a_rows_of => k_is); (case l_rows_of => k_is); (case c_rows_of => k_is); (case k_rows_of => k_is); (case a_form_text => k_is); (case l_form_text => k_is); (case c_form_text => k_is); (case k_form_text => k_is); (case a_L_pot => k_is); (case l_L_pot => k_is); (case c_L_pot => k_is); (case k_L_pot => k_is); (case a_L_take => k_is); (case l_L_take => k_is); (case c_L_take => k_is); (case k_L_take => k_is); (case a_L_name => k_is); (case l_L_name => k_is); (case c_L_name => k_is); (case k_L_name => k_is); (case a_L_options => k_is); (case l_L_options => k_is); (case c_L_options => k_is); (case k_L_options => k_is); (case a_L_kind => k_is); (case l_L_kind => k_is); (case c_L_kind => k_is); (case k_L_kind => k_is); (case a_L_piece => k_is); (case l_L_piece => k_is); (case c_L_piece => k_is); (case k_L_piece => k_is); (case a_L_condition => k_is); (case l_L_condition => k_is); (case c_L_condition => k_is); (case k_L_condition => k_is); (case a_L_steps => k_is); (case l_L_steps => k_is); (case c_L_steps => k_is); (case k_L_steps => k_is); (case a_L_step => k_is); (case l_L_step => k_is); (case c_L_step => k_is); (case k_L_step => k_is); (case a_L_form => k_is); (case l_L_form => k_is); (case c_L_form => k_is); (case k_L_form => k_is); (case a_L_kind_text => k_is); (case l_L_kind_text => k_is); (case c_L_kind_text => k_is); (case k_L_kind_text => k_is); (case a_L_condition_text => k_is); (case l_L_condition_text => k_is); (case c_L_condition_text => k_is); (case k_L_condition_text => k_is); (case a_L_rows => k_is); (case l_L_rows => k_is); (case c_L_rows => k_is); (case k_L_rows => k_is); (case a_law => k_is); (case l_law => k_is); (case c_law => k_is); (case k_law => k_is); (case z_isinstance => k_is); (case z_int => k_is); (case z_bool => k_is); (case z_all => k_is); (case z_str => k_is); (case z_len => k_is); (case z_tuple => k_is); (case z_set => k_is); (case z_sum => k_is); (case z_abs => k_is); (case z_range => k_is); (case z_min => k_is); (case z_max => k_is); (case w_MOST_NUMBER => k_is); (case r_MOST_NUMBER => first | decide +kernel | kernel_rfl | exact rfl); (case w_WORDS => k_is); (case r_WORDS => first | decide +kernel | kernel_rfl | exact rfl); (case w_MOST_LETTERS => k_is); (case r_MOST_LETTERS => first | decide +kernel | kernel_rfl | exact rfl); (case w_LETTERS => k_is); (case r_LETTERS => first | decide +kernel | kernel_rfl | exact rfl); (case w_MOST_OPTIONS => k_is); (case r_MOST_OPTIONS => first | decide +kernel | kernel_rfl | exact rfl); (case w_PIECES_conditions => k_is); (case at_PIECES_conditions => k_is); (case li_PIECES_conditions => (repeat (first | exact trivial | refine ⟨⟨_, _, rfl, rfl⟩, ?_⟩))); (case lo_PIECES_conditions => first | rfl | decide +kernel); (case r_PIECES_conditions => first | decide +kernel | kernel_rfl | exact rfl); (case w_MOST_PARTS => k_is); (case r_MOST_PARTS => first | decide +kernel | kernel_rfl | exact rfl); (case w_MOST_DEEP_conditions => k_is); (case r_MOST_DEEP_conditions => first | decide +kernel | kernel_rfl | exact rfl); (case w_MOST_PIECES => k_is); (case r_MOST_PIECES => first | decide +kernel | kernel_rfl | exact rfl); (case w_PIECES_trees => k_is); (case at_PIECES_trees => k_is); (case li_PIECES_trees => (repeat (first | exact trivial | refine ⟨⟨_, _, rfl, rfl⟩, ?_⟩))); (case lo_PIECES_trees => first | rfl | decide +kernel); (case r_PIECES_trees => first | decide +kernel | kernel_rfl | exact rfl); (case rv_PIECES_trees => first | decide +kernel | kernel_rfl | exact rfl); (case w_MOST_FOLK => k_is); (case r_MOST_FOLK => first | decide +kernel | kernel_rfl | exact rfl); (case w_MOST_STEPS => k_is); (case r_MOST_STEPS => first | decide +kernel | kernel_rfl | exact rfl); (case w_MOST_DEEP_trees => k_is); (case r_MOST_DEEP_trees => first | decide +kernel | kernel_rfl | exact rfl); (case w_PARTS => k_is); (case at_PARTS => k_is); (case li_PARTS => (repeat (first | exact trivial | refine ⟨⟨_, _, rfl, rfl⟩, ?_⟩))); (case lo_PARTS => first | rfl | decide +kernel); (case rv_PARTS => first | decide +kernel | kernel_rfl | exact rfl); (case w_NoKind => k_is); (case w_NoCondition => k_is); (case kp_NoKind => k_is); (case xi_NoKind => k_exc); (case ty_NoKind => k_is); (case hg_NoKind => k_is); (case hk_NoKind => k_is); (case hs_NoKind => k_is); (case hd_NoKind => k_is); (case ha_NoKind => k_is); (case hn_NoKind => k_is); (case ht_NoKind => k_is); (case hm_NoKind => k_is); (case kp_NoCondition => k_is); (case xi_NoCondition => k_exc); (case ty_NoCondition => k_is); (case hg_NoCondition => k_is); (case hk_NoCondition => k_is); (case hs_NoCondition => k_is); (case hd_NoCondition => k_is); (case ha_NoCondition => k_is); (case hn_NoCondition => k_is); (case ht_NoCondition => k_is); (case hm_NoCondition => k_is)
