import PyProof.Rows.All
import Wide.All
import OpenK.AllK
import Wide.FinOn
import HandS.ForMost
import HandS.Exc
import HandS.TryOnly
import HandS.ExcOwn
import HandS.Wide
import HandS.Flow
import HandS.TupAny
import HandS.TupMul
import HandS.TupLe
import HandS.Style
import HandS.IsInst
import PyProof.ReprLen
import HandS.More
import PySem.Challenge.RW_askround_k05_conditions_known
set_option Elab.async false
set_option linter.all false
set_option maxRecDepth 100000
/-! A layer of data over the hand layer: values are trees (PyData), things that may change are addresses. -/
namespace Dl
open PySem PySem.Spec PyProof.Rows L2

inductive W where
  | d (x : PyData)
  | ref (a : Addr)
  /-- a list that is read alone (the script) -/
  | scr (xs : List PyData)
inductive O where
  | lst (xs : List W)
  | ins (C : Addr) (fs : List (Str × W))
abbrev MH := Addr → Option O
def mset (M : MH) (a : Addr) (o : O) : MH := fun b => if b = a then some o else M b
theorem mset_same {M : MH} {a : Addr} {o : O} : mset M a o a = some o := if_pos rfl
theorem mset_ne {M : MH} {a b : Addr} {o : O} (h : b ≠ a) : mset M a o b = M b := if_neg h
def mdel (M : MH) (a : Addr) : MH := fun b => if b = a then none else M b
theorem mdel_same {M : MH} {a : Addr} : mdel M a a = none := if_pos rfl
theorem mdel_ne {M : MH} {a b : Addr} (h : b ≠ a) : mdel M a b = M b := if_neg h

def noH : Hp := fun _ => none
def FL (H : Hp) (M : MH) (a : Addr) (xs : List V) : Prop := H a = some (.lst xs) ∧ M a = none
def FS (K : PySem.W.Frag) (H : Hp) (M : MH) (a : Addr) (xs : List V) : Prop := (Rd H a (.lst xs) ∧ M a = none) ∨ SqL K noH a xs
def FT (K : PySem.W.Frag) (H : Hp) (M : MH) (a : Addr) (xs : List V) : Prop := (Rd H a (.tup xs) ∧ M a = none) ∨ SqT K noH a xs
theorem no_rd {a : Addr} {u : HO} (h : Rd noH a u) : False := by
  rcases h with h | ⟨o, h⟩ <;> cases h
theorem FL.sq {K : PySem.W.Frag} {H : Hp} {M : MH} {a : Addr} {xs : List V} (h : FL H M a xs) : SqL K H a xs := .inl (.inl h.1)
theorem FS.sq {K : PySem.W.Frag} {H : Hp} {M : MH} {a : Addr} {xs : List V} (h : FS K H M a xs) : SqL K H a xs := by
  rcases h with ⟨h, _⟩ | h
  · exact .inl h
  · rcases h with h | h
    · exact (no_rd h).elim
    · exact .inr h
theorem FT.sq {K : PySem.W.Frag} {H : Hp} {M : MH} {a : Addr} {xs : List V} (h : FT K H M a xs) : SqT K H a xs := by
  rcases h with ⟨h, _⟩ | h
  · exact .inl h
  · rcases h with h | h
    · exact (no_rd h).elim
    · exact .inr h
def keyD : Key → PyData
  | .inl i => .int i
  | .inr x => .str x

mutual
/-- v is the datum, and what it is made of does not change any more -/
inductive Fz (K : PySem.W.Frag) (H : Hp) (M : MH) : V → PyData → Prop
  | non : Fz K H M .non .none
  | bl (b : Bool) : Fz K H M (.bl b) (.bool b)
  | int (i : Int) : Fz K H M (.int i) (.int i)
  | str (x : Str) : Fz K H M (.str x) (.str x)
  | lst {a : Addr} {xs : List V} {ds : List PyData} : FL H M a xs → FzA K H M xs ds → Fz K H M (.ref a) (.list ds)
  | tup {a : Addr} {xs : List V} {ds : List PyData} : FT K H M a xs → FzA K H M xs ds → Fz K H M (.ref a) (.tuple ds)
  | dK {a : Addr} {kvs : List (Key × V)} {ds : List (PyData × PyData)} : H a = some (.dK kvs) → M a = none → FzK K H M kvs ds → Fz K H M (.ref a) (.dict ds)
  | dT {a : Addr} {kvs : List (List Key × V)} {ds : List (PyData × PyData)} : H a = some (.dT kvs) → M a = none → FzT K H M kvs ds → Fz K H M (.ref a) (.dict ds)
inductive FzA (K : PySem.W.Frag) (H : Hp) (M : MH) : List V → List PyData → Prop
  | nil : FzA K H M [] []
  | cons {v : V} {d : PyData} {vs : List V} {ds : List PyData} : Fz K H M v d → FzA K H M vs ds → FzA K H M (v :: vs) (d :: ds)
inductive FzK (K : PySem.W.Frag) (H : Hp) (M : MH) : List (Key × V) → List (PyData × PyData) → Prop
  | nil : FzK K H M [] []
  | cons {k : Key} {v : V} {d : PyData} {vs : List (Key × V)} {ds : List (PyData × PyData)} : Fz K H M v d → FzK K H M vs ds → FzK K H M ((k, v) :: vs) ((keyD k, d) :: ds)
inductive FzT (K : PySem.W.Frag) (H : Hp) (M : MH) : List (List Key × V) → List (PyData × PyData) → Prop
  | nil : FzT K H M [] []
  | cons {k : List Key} {v : V} {d : PyData} {vs : List (List Key × V)} {ds : List (PyData × PyData)} : Fz K H M v d → FzT K H M vs ds → FzT K H M ((k, v) :: vs) ((.tuple (k.map keyD), d) :: ds)
end

/-- what does not change stays -/
def Ext (H : Hp) (M : MH) (H' : Hp) (M' : MH) : Prop := ∀ a o, H a = some o → M a = none → H' a = some o ∧ M' a = none
theorem Ext.refl (H : Hp) (M : MH) : Ext H M H M := fun _ _ h m => ⟨h, m⟩
theorem Ext.trans {H H1 H2 : Hp} {M M1 M2 : MH} (e : Ext H M H1 M1) (f : Ext H1 M1 H2 M2) : Ext H M H2 M2 := fun a o h m =>
  let ⟨h1, m1⟩ := e a o h m
  f a o h1 m1

section
variable {K : PySem.W.Frag} {H H' : Hp} {M M' : MH}
theorem Ext.rd (e : Ext H M H' M') {a : Addr} {u : HO} (h : Rd H a u) (m : M a = none) : Rd H' a u ∧ M' a = none := by
  rcases h with h | ⟨o, h⟩
  · exact ⟨.inl (e a _ h m).1, (e a _ h m).2⟩
  · exact ⟨.inr ⟨o, (e a _ h m).1⟩, (e a _ h m).2⟩
theorem FL.ext (e : Ext H M H' M') {a : Addr} {xs : List V} (h : FL H M a xs) : FL H' M' a xs := e a _ h.1 h.2
theorem FS.ext (e : Ext H M H' M') {a : Addr} {xs : List V} (h : FS K H M a xs) : FS K H' M' a xs := by
  rcases h with ⟨h, m⟩ | h
  · exact .inl (e.rd h m)
  · exact .inr h
theorem FT.ext (e : Ext H M H' M') {a : Addr} {xs : List V} (h : FT K H M a xs) : FT K H' M' a xs := by
  rcases h with ⟨h, m⟩ | h
  · exact .inl (e.rd h m)
  · exact .inr h
mutual
theorem Fz.ext (e : Ext H M H' M') : ∀ (d : PyData) (v : V), Fz K H M v d → Fz K H' M' v d
  | .none, _, h => by cases h; exact .non
  | .bool b, _, h => by cases h; exact .bl b
  | .int i, _, h => by cases h; exact .int i
  | .str x, _, h => by cases h; exact .str x
  | .list ds, _, h => by cases h with | lst h1 h2 => exact .lst (h1.ext e) (FzA.ext e ds _ h2)
  | .tuple ds, _, h => by cases h with | tup h1 h2 => exact .tup (h1.ext e) (FzA.ext e ds _ h2)
  | .dict ds, _, h => by
    cases h with
    | dK h1 h2 h3 => exact .dK (e _ _ h1 h2).1 (e _ _ h1 h2).2 (FzK.ext e ds _ h3)
    | dT h1 h2 h3 => exact .dT (e _ _ h1 h2).1 (e _ _ h1 h2).2 (FzT.ext e ds _ h3)
theorem FzA.ext (e : Ext H M H' M') : ∀ (ds : List PyData) (vs : List V), FzA K H M vs ds → FzA K H' M' vs ds
  | [], _, h => by cases h; exact .nil
  | d :: ds, _, h => by cases h with | cons h1 h2 => exact .cons (Fz.ext e d _ h1) (FzA.ext e ds _ h2)
theorem FzK.ext (e : Ext H M H' M') : ∀ (ds : List (PyData × PyData)) (vs : List (Key × V)), FzK K H M vs ds → FzK K H' M' vs ds
  | [], _, h => by cases h; exact .nil
  | (k, d) :: ds, _, h => by cases h with | cons h1 h2 => exact .cons (Fz.ext e d _ h1) (FzK.ext e ds _ h2)
theorem FzT.ext (e : Ext H M H' M') : ∀ (ds : List (PyData × PyData)) (vs : List (List Key × V)), FzT K H M vs ds → FzT K H' M' vs ds
  | [], _, h => by cases h; exact .nil
  | (k, d) :: ds, _, h => by cases h with | cons h1 h2 => exact .cons (Fz.ext e d _ h1) (FzT.ext e ds _ h2)
end
end

def Wv (K : PySem.W.Frag) (H : Hp) (M : MH) (v : V) : W → Prop
  | .d x => Fz K H M v x
  | .ref a => v = .ref a
  | .scr ds => ∃ a xs, v = .ref a ∧ FS K H M a xs ∧ FzA K H M xs ds
abbrev WvA (K : PySem.W.Frag) (H : Hp) (M : MH) : List V → List W → Prop := Paired (Wv K H M)
def WvF (K : PySem.W.Frag) (H : Hp) (M : MH) : List (Str × V) → List (Str × W) → Prop := Paired fun p q => p.1 = q.1 ∧ Wv K H M p.2 q.2
section
variable {K : PySem.W.Frag} {H H' : Hp} {M M' : MH}
theorem Wv.ext (e : Ext H M H' M') {v : V} {w : W} (h : Wv K H M v w) : Wv K H' M' v w := by
  cases w with
  | d x => exact Fz.ext e x v h
  | ref a => exact h
  | scr ds => obtain ⟨a, xs, h1, h2, h3⟩ := h; exact ⟨a, xs, h1, h2.ext e, FzA.ext e ds xs h3⟩
theorem WvA.ext (e : Ext H M H' M') {vs : List V} {ws : List W} (h : WvA K H M vs ws) : WvA K H' M' vs ws := Paired.mapP h fun _ _ x => Wv.ext e x
theorem WvF.ext (e : Ext H M H' M') {vs : List (Str × V)} {ws : List (Str × W)} (h : WvF K H M vs ws) : WvF K H' M' vs ws := Paired.mapP h fun _ _ x => ⟨x.1, Wv.ext e x.2⟩
theorem FzA.wv : ∀ {vs : List V} {ds : List PyData}, FzA K H M vs ds → WvA K H M vs (ds.map W.d)
  | _, _, .nil => .nil
  | _, _, .cons h1 h2 => .cons h1 h2.wv
theorem FzA.of_wv : ∀ {vs : List V} {ds : List PyData}, WvA K H M vs (ds.map W.d) → FzA K H M vs ds
  | _, [], h => by cases h; exact .nil
  | _, d :: ds, h => by cases h with | cons h1 h2 => exact .cons h1 (FzA.of_wv h2)
theorem FzA.length : ∀ {vs : List V} {ds : List PyData}, FzA K H M vs ds → vs.length = ds.length
  | _, _, .nil => rfl
  | _, _, .cons _ h2 => by simp [h2.length]
theorem FzA.get : ∀ {vs : List V} {ds : List PyData} {i : Nat} {d : PyData}, FzA K H M vs ds → ds[i]? = some d → ∃ v, vs[i]? = some v ∧ Fz K H M v d
  | _, _, _, _, .nil, e => by simp at e
  | _, _, 0, _, .cons h1 _, e => by simp at e; subst e; exact ⟨_, rfl, h1⟩
  | _, _, i + 1, d, .cons _ h2, e => by
    obtain ⟨v, e1, e2⟩ := FzA.get (i := i) (d := d) h2 (by simpa using e)
    exact ⟨v, by simpa using e1, e2⟩
theorem FzA.append : ∀ {vs ws : List V} {ds es : List PyData}, FzA K H M vs ds → FzA K H M ws es → FzA K H M (vs ++ ws) (ds ++ es)
  | _, _, _, _, .nil, h => h
  | _, _, _, _, .cons h1 h2, h => .cons h1 (h2.append h)
theorem FzA.take : ∀ {vs : List V} {ds : List PyData} (n : Nat), FzA K H M vs ds → FzA K H M (vs.take n) (ds.take n)
  | _, _, 0, _ => .nil
  | _, _, _ + 1, .nil => .nil
  | _, _, n + 1, .cons h1 h2 => .cons h1 (h2.take n)
theorem FzA.drop : ∀ {vs : List V} {ds : List PyData} (n : Nat), FzA K H M vs ds → FzA K H M (vs.drop n) (ds.drop n)
  | _, _, 0, h => h
  | _, _, _ + 1, .nil => .nil
  | _, _, n + 1, .cons _ h2 => h2.drop n
end

/-- the heap of things that may change is held -/
def OkO (K : PySem.W.Frag) (H : Hp) (M : MH) (a : Addr) : O → Prop
  | .lst ws => ∃ xs, H a = some (.lst xs) ∧ WvA K H M xs ws
  | .ins C fs => ∃ dx vs, H a = some (.ins C dx vs) ∧ WvF K H M vs fs
def Dok (K : PySem.W.Frag) (H : Hp) (M : MH) : Prop := ∀ a o, M a = some o → OkO K H M a o
theorem Dok.there {K : PySem.W.Frag} {H : Hp} {M : MH} (h : Dok K H M) {a : Addr} {o : O} (e : M a = some o) : ∃ u, H a = some u := by
  have q := h a o e
  cases o with
  | lst ws => obtain ⟨xs, q, _⟩ := q; exact ⟨_, q⟩
  | ins C fs => obtain ⟨dx, vs, q, _⟩ := q; exact ⟨_, q⟩
theorem Dok.free {K : PySem.W.Frag} {H : Hp} {M : MH} (h : Dok K H M) {a : Addr} (e : H a = none) : M a = none := by
  cases q : M a with
  | none => rfl
  | some o =>
    obtain ⟨u, z⟩ := h.there q
    rw [e] at z
    cases z
section
variable {K : PySem.W.Frag} {H H' : Hp} {M M' : MH} {a : Addr}
/-- a new frozen object -/
theorem ext_new (n : H a = none) (m : M a = none) {o : HO} : Ext H M (upd H a o) M := fun b u h m' => ⟨by rw [upd_ne (ne_of_none h n)]; exact h, m'⟩
theorem OkO.ext (e : Ext H M H' M') (hH : ∀ u, H a = some u → H' a = some u) {o : O} (h : OkO K H M a o) : OkO K H' M' a o := by
  cases o with
  | lst ws => obtain ⟨xs, q, r⟩ := h; exact ⟨xs, hH _ q, WvA.ext e r⟩
  | ins C fs => obtain ⟨dx, vs, q, r⟩ := h; exact ⟨dx, vs, hH _ q, WvF.ext e r⟩
theorem dok_new (D : Dok K H M) (n : H a = none) {o : HO} : Dok K (upd H a o) M := fun b u e =>
  (D b u e).ext (ext_new n (D.free n)) fun v h => by rw [upd_ne (ne_of_none h n)]; exact h
/-- a new object that may change, or an old one changed -/
theorem ext_mut {o : HO} {u : O} (m : M a ≠ none ∨ H a = none) : Ext H M (upd H a o) (mset M a u) := fun b v h m' => by
  have hb : b ≠ a := by
    rintro rfl
    rcases m with m | m
    · exact m m'
    · rw [m] at h; cases h
  exact ⟨by rw [upd_ne hb]; exact h, by rw [mset_ne hb]; exact m'⟩
theorem dok_mut (D : Dok K H M) {o : HO} {u : O} (m : M a ≠ none ∨ H a = none) (k : Ext H M (upd H a o) (mset M a u) → OkO K (upd H a o) (mset M a u) a u) : Dok K (upd H a o) (mset M a u) := fun b v e => by
  have X := ext_mut (o := o) (u := u) m
  by_cases hb : b = a
  · subst hb
    rw [mset_same] at e
    cases e
    exact k X
  · rw [mset_ne hb] at e
    exact (D b v e).ext X fun w h => by rw [upd_ne hb]; exact h
/-- fewer things may change -/
theorem ext_less (h : ∀ b o, M' b = some o → M b = some o) : Ext H M H M' := fun b o e m => ⟨e, by
  cases q : M' b with
  | none => rfl
  | some o => rw [h b o q] at m; cases m⟩
theorem dok_less (D : Dok K H M) (h : ∀ b o, M' b = some o → M b = some o) : Dok K H M' := fun b o e => (D b o (h b o e)).ext (ext_less h) fun _ z => z
theorem mdel_less : ∀ b o, mdel M a b = some o → M b = some o := fun b o e => by
  by_cases hb : b = a
  · subst hb
    rw [mdel_same] at e
    cases e
  · rw [mdel_ne hb] at e
    exact e
end

/-! ### slots -/
abbrev SD := List (Option W)
def Slots (K : PySem.W.Frag) (H : Hp) (M : MH) : L2.St → SD → Prop := Paired fun a b => ∀ w, b = some w → ∃ v, a = some v ∧ Wv K H M v w
section
variable {K : PySem.W.Frag} {H H' : Hp} {M M' : MH}
theorem Slots.ext (e : Ext H M H' M') {s : L2.St} {σ : SD} (h : Slots K H M s σ) : Slots K H' M' s σ := Paired.mapP h fun _ _ q w hw =>
  let ⟨v, h1, h2⟩ := q w hw
  ⟨v, h1, Wv.ext e h2⟩
theorem Slots.get : ∀ {s : L2.St} {σ : SD} {i : Nat} {w : W}, Slots K H M s σ → σ[i]? = some (some w) → ∃ v, s[i]? = some (some v) ∧ Wv K H M v w
  | _, _, _, _, .nil, e => by simp at e
  | _, _, 0, w, .cons r _, e => by
    simp at e
    obtain ⟨v, h1, h2⟩ := r w e
    exact ⟨v, by simp [h1], h2⟩
  | _, _, i + 1, w, .cons _ t, e => by
    obtain ⟨v, h1, h2⟩ := Slots.get (i := i) (w := w) t (by simpa using e)
    exact ⟨v, by simpa using h1, h2⟩
theorem Slots.set {v : V} {w : W} (r : Wv K H M v w) : ∀ {s : L2.St} {σ : SD} (i : Nat), Slots K H M s σ → Slots K H M (s.set i (some v)) (σ.set i (some w))
  | _, _, _, .nil => .nil
  | _, _, 0, .cons _ t => .cons (fun w' e => ⟨v, rfl, by cases e; exact r⟩) t
  | _, _, i + 1, .cons q t => .cons q (Slots.set r i t)
theorem Slots.wipe1 : ∀ {s : L2.St} {σ : SD} (i : Nat), Slots K H M s σ → Slots K H M (s.set i none) (σ.set i none)
  | _, _, _, .nil => .nil
  | _, _, 0, .cons _ t => .cons (fun w' e => by cases e) t
  | _, _, i + 1, .cons q t => .cons q (Slots.wipe1 i t)
theorem Slots.length {s : L2.St} {σ : SD} (h : Slots K H M s σ) : s.length = σ.length := Paired.length h
end
def wipeD (σ : SD) : List Nat → SD
  | [] => σ
  | v :: vs => (wipeD σ vs).set v none
theorem Slots.wipe {K : PySem.W.Frag} {H : Hp} {M : MH} {s : L2.St} {σ : SD} (h : Slots K H M s σ) : ∀ vs : List Nat, Slots K H M (L2.wipe s vs) (wipeD σ vs)
  | [] => h
  | v :: vs => Slots.wipe1 v (Slots.wipe h vs)
theorem slots_start {K : PySem.W.Frag} {H : Hp} {M : MH} : ∀ {vs : List V} {ws : List W} (n : Nat), WvA K H M vs ws → Slots K H M (vs.map some ++ List.replicate n none) (ws.map some ++ List.replicate n none)
  | _, _, n, .nil => by
    show Slots K H M (List.replicate n none) (List.replicate n none)
    induction n with
    | zero => exact .nil
    | succ n ih => exact .cons (fun w e => by cases e) ih
  | _, _, n, .cons r t => .cons (fun w e => ⟨_, rfl, by cases e; exact r⟩) (slots_start n t)
end Dl
set_option Elab.async false
set_option linter.all false
set_option maxRecDepth 100000
namespace Dl
open PySem PySem.Spec PyProof.Rows L2

/-! ### contexts -/
structure Gc where
  P : Program
  w : World
  K : PySem.W.Frag
  mg : Str → Option Value
  base : Heap
structure Si where
  sc : Scope
  N : List Str
  vis : List Nat
  loc : List Nat
  cel : List Nat
  gls : List Str
abbrev XF := Option (List (Str × W))
abbrev XD := Value → XF → MH → Prop
structure Dx where
  X : Cx
  H0 : Hp
  M0 : MH
  wd : Value → XF → SD → MH → Prop
structure Std (Y : Dx) (s : L2.St) (H : Hp) (σ : SD) (M : MH) : Prop where
  e : Ext Y.H0 Y.M0 H M
  d : Dok Y.X.K H M
  s : Slots Y.X.K H M s σ
def XFs (K : PySem.W.Frag) (H : Hp) (M : MH) (d : Option Addr) (fs : XF) : Prop :=
  match d, fs with
  | none, none => True
  | some dx, some fs => ∃ vs, H dx = some (.xd vs) ∧ WvF K H M vs fs
  | _, _ => False
def upX (Y : Dx) (wd : Value → XF → SD → MH → Prop) : WX := fun cls d s H => ∃ σ M fs, Std Y s H σ M ∧ XFs Y.X.K H M d fs ∧ wd cls fs σ M
def visOk (N : List Str) (sc : Scope) (l : List Nat) : Bool := l.all fun i => match N[i]? with
  | some x => (match sc.names.lookup x with | some .local => true | some .cell => true | some .free => true | _ => false) && (x == ("__debug__" : Str)) == false && (x == ("__classdict__" : Str)) == false
  | none => false
def kindOk (N : List Str) (sc : Scope) (k : NameKind) (l : List Nat) : Bool := l.all fun i => match N[i]? with
  | some x => decide (sc.names.lookup x = some k)
  | none => false
def gloOk (sc : Scope) (l : List Str) : Bool := l.all fun x => decide (sc.names.lookup x = some .globalImplicit) && (x == ("__debug__" : Str)) == false && decide (x ≠ "__name__")

/-- sys.modules stands where it stands -/
def SysOk (h : Heap) : Prop := ∃ o es n, h.get? sysModules = some o ∧ o.data = .dict es n
structure Fm (g : Gc) (i : Si) (k : Nat) (Y : Dx) : Prop where
  hP : Y.X.prog = g.P
  hw : Y.X.w = g.w
  hK : Y.X.K = g.K
  hmg : Y.X.mg = g.mg
  hb : Y.X.base = g.base
  N : Y.X.N = i.N
  hsc : Y.X.env.scope = i.sc
  nd : i.N.Nodup
  calm : Y.X.calm = true
  gd : Y.X.A.guards = some []
  room : Room k Y.X.A
  var : ∀ j x, i.vis.contains j = true → i.N[j]? = some x → Vis Y.X.env.scope x ∧ (x == ("__debug__" : Str)) = false ∧ (x == ("__classdict__" : Str)) = false
  loc : ∀ j x, i.loc.contains j = true → i.N[j]? = some x → Y.X.env.scope.names.lookup x = some .local
  cel : ∀ j x, i.cel.contains j = true → i.N[j]? = some x → Y.X.env.scope.names.lookup x = some .cell ∧ Y.X.fn x = true
  glo : ∀ (j : Nat) x, i.gls[j]? = some x → Gl Y.X x ∧ (x == ("__debug__" : Str)) = false ∧ x ≠ "__name__"
  sy : SysOk Y.X.base
  tk : Takes Y.X (upX Y Y.wd)
  po : PassesOwn (model Y.X.prog Y.X.w) Y.X.A Y.X.env Y.X.xe

/-! ### what code means -/
def semE (X : Cx) (e : Expr) : TE := fun s H Q => ∀ pins sh, Inv X pins s H sh → wpAny (model X.prog X.w) X.A (eval e X.env) (EP X pins s Q) X.xe sh
theorem pe_sem {X : Cx} {e : Expr} : PE X e (semE X e) := ⟨fun pins s _ _ _ I h => h pins s I⟩
theorem semE_of {X : Cx} {e : Expr} {t : TE} (h : PE X e t) {s : L2.St} {H : Hp} {Q : VK} (q : t s H Q) : semE X e s H Q := fun pins sh I => h.run pins sh s H Q I q
theorem semE_mono {X : Cx} {e : Expr} {s : L2.St} {H : Hp} {Q Q' : VK} (h : semE X e s H Q) (k : ∀ v H', Q v H' → Q' v H') : semE X e s H Q' := fun pins sh I =>
  thn (h pins sh I) fun _ _ ⟨v, H', I', r, q⟩ => ⟨v, H', I', r, k v H' q⟩
def semT (X : Cx) (e : Expr) : TT := fun s H Q => ∀ pins sh, Inv X pins s H sh → wpAny (model X.prog X.w) X.A (isTrue e X.env (eval e X.env)) (TP X pins s Q) X.xe sh
theorem pt_sem {X : Cx} {e : Expr} : PT X e (semT X e) := ⟨fun pins s _ _ _ I h => h pins s I⟩
theorem semT_of {X : Cx} {e : Expr} {t : TT} (h : PT X e t) {s : L2.St} {H : Hp} {Q : Bool → Hp → Prop} (q : t s H Q) : semT X e s H Q := fun pins sh I => h.run pins sh s H Q I q
theorem semT_mono {X : Cx} {e : Expr} {s : L2.St} {H : Hp} {Q Q' : Bool → Hp → Prop} (h : semT X e s H Q) (k : ∀ v H', Q v H' → Q' v H') : semT X e s H Q' := fun pins sh I =>
  thn (h pins sh I) fun _ _ ⟨H', I', q⟩ => ⟨H', I', k _ H' q⟩
def semW (X : Cx) (e : Expr) : TT := fun s H Q => ∀ (whole : Sem Value) pins sh, Inv X pins s H sh → wpAny (model X.prog X.w) X.A (isTrue e X.env whole) (TP X pins s Q) X.xe sh
theorem pw_sem {X : Cx} {e : Expr} : PW X e (semW X e) := ⟨fun wh pins s _ _ _ I h => h wh pins s I⟩
theorem semW_of {X : Cx} {e : Expr} {t : TT} (h : PW X e t) {s : L2.St} {H : Hp} {Q : Bool → Hp → Prop} (q : t s H Q) : semW X e s H Q := fun wh pins sh I => h.run wh pins sh s H Q I q
def semA (X : Cx) (es : List Expr) : TA := fun s H Q => ∀ (pos : Pos) pins sh, Inv X pins s H sh → wpAny (model X.prog X.w) X.A (spliced (backTo pos (starEach es X.env))) (AP X pins s Q) X.xe sh
theorem pa_sem {X : Cx} {es : List Expr} : PA X es (semA X es) := ⟨fun pos pins s _ _ _ I h => h pos pins s I⟩
theorem semA_of {X : Cx} {es : List Expr} {t : TA} (h : PA X es t) {s : L2.St} {H : Hp} {Q : List V → Hp → Prop} (q : t s H Q) : semA X es s H Q := fun pos pins sh I => h.run pos pins sh s H Q I q
theorem semA_mono {X : Cx} {es : List Expr} {s : L2.St} {H : Hp} {Q Q' : List V → Hp → Prop} (h : semA X es s H Q) (k : ∀ v H', Q v H' → Q' v H') : semA X es s H Q' := fun pos pins sh I =>
  thn (h pos pins sh I) fun _ _ ⟨v, H', I', r, q⟩ => ⟨v, H', I', r, k v H' q⟩
def semS (X : Cx) (st : Stmt) : TS := fun D s H => ∀ pins sh, Inv X pins s H sh → wpAny (model X.prog X.w) X.A (exec st X.env) (SP X pins D) X.xe sh
theorem ps_sem {X : Cx} {st : Stmt} : PS X st (semS X st) := ⟨fun pins s _ _ _ I h => h pins s I⟩
theorem semS_of {X : Cx} {st : Stmt} {t : TS} (h : PS X st t) {s : L2.St} {H : Hp} {D : Ends} (q : t D s H) : semS X st D s H := fun pins sh I => h.run pins sh s H D I q
def semSs (X : Cx) (st : List Stmt) : TS := fun D s H => ∀ pins sh, Inv X pins s H sh → wpAny (model X.prog X.w) X.A (execs st X.env) (SP X pins D) X.xe sh
theorem pss_sem {X : Cx} {st : List Stmt} : PSs X st (semSs X st) := ⟨fun pins s _ _ _ I h => h pins s I⟩
theorem semSs_of {X : Cx} {st : List Stmt} {t : TS} (h : PSs X st t) {s : L2.St} {H : Hp} {D : Ends} (q : t D s H) : semSs X st D s H := fun pins sh I => h.run pins sh s H D I q
theorem SP.mono {X : Cx} {pins : List (Addr × Obj)} {D D' : Ends} {f : Flow} {s' : Shared} (h : SP X pins D f s') (h1 : ∀ σ H, D.nx σ H → D'.nx σ H) (h2 : ∀ v H, D.rt v H → D'.rt v H) (h3 : ∀ σ H, D.bk σ H → D'.bk σ H) (h4 : ∀ σ H, D.ct σ H → D'.ct σ H) : SP X pins D' f s' := by
  cases f with
  | next => obtain ⟨σ', H', I, q⟩ := h; exact ⟨σ', H', I, h1 _ _ q⟩
  | brk => obtain ⟨σ', H', I, q⟩ := h; exact ⟨σ', H', I, h3 _ _ q⟩
  | cont => obtain ⟨σ', H', I, q⟩ := h; exact ⟨σ', H', I, h4 _ _ q⟩
  | ret u => obtain ⟨v, σ', H', I, r, q⟩ := h; exact ⟨v, σ', H', I, r, h2 _ _ q⟩

/-! ### readings over data -/
abbrev TEd := SD → MH → (W → MH → Prop) → Prop
abbrev TTd := SD → MH → (Bool → MH → Prop) → Prop
abbrev TAd := SD → MH → (List W → MH → Prop) → Prop
structure EndsD where
  nx : SD → MH → Prop
  rt : W → MH → Prop
  bk : SD → MH → Prop := fun _ _ => False
  ct : SD → MH → Prop := fun _ _ => False
abbrev TSd := EndsD → SD → MH → Prop

/-- behind (H, M) -/
def up (Y : Dx) (H : Hp) (M : MH) (Q : W → MH → Prop) : VK := fun v H' => ∃ w M', Ext H M H' M' ∧ Dok Y.X.K H' M' ∧ Wv Y.X.K H' M' v w ∧ Q w M'
def upB (Y : Dx) (H : Hp) (M : MH) (Q : Bool → MH → Prop) : Bool → Hp → Prop := fun b H' => ∃ M', Ext H M H' M' ∧ Dok Y.X.K H' M' ∧ Q b M'
def upA (Y : Dx) (H : Hp) (M : MH) (Q : List W → MH → Prop) : List V → Hp → Prop := fun vs H' => ∃ ws M', Ext H M H' M' ∧ Dok Y.X.K H' M' ∧ WvA Y.X.K H' M' vs ws ∧ Q ws M'
def upS (Y : Dx) (H : Hp) (M : MH) (Q : SD → MH → Prop) : L2.St → Hp → Prop := fun s H' => ∃ σ M', Ext H M H' M' ∧ Std Y s H' σ M' ∧ Q σ M'
def upD (Y : Dx) (H : Hp) (M : MH) (D : EndsD) : Ends := { nx := upS Y H M D.nx, rt := up Y H M D.rt, bk := upS Y H M D.bk, ct := upS Y H M D.ct }

structure QE (Y : Dx) (e : Expr) (t : TEd) : Prop where
  run : ∀ s H σ M Q, Std Y s H σ M → t σ M Q → semE Y.X e s H (up Y H M Q)
structure QT (Y : Dx) (e : Expr) (t : TTd) : Prop where
  run : ∀ s H σ M Q, Std Y s H σ M → t σ M Q → semT Y.X e s H (upB Y H M Q)
structure QW (Y : Dx) (e : Expr) (t : TTd) : Prop where
  run : ∀ s H σ M Q, Std Y s H σ M → t σ M Q → semW Y.X e s H (upB Y H M Q)
structure QA (Y : Dx) (es : List Expr) (t : TAd) : Prop where
  run : ∀ s H σ M Q, Std Y s H σ M → t σ M Q → semA Y.X es s H (upA Y H M Q)
structure QS (Y : Dx) (st : Stmt) (t : TSd) : Prop where
  run : ∀ s H σ M D, Std Y s H σ M → t D σ M → semS Y.X st (upD Y H M D) s H
structure QSs (Y : Dx) (st : List Stmt) (t : TSd) : Prop where
  run : ∀ s H σ M D, Std Y s H σ M → t D σ M → semSs Y.X st (upD Y H M D) s H

section
variable {Y : Dx} {s : L2.St} {H H1 : Hp} {σ : SD} {M M1 : MH}
theorem Std.go (S : Std Y s H σ M) (e : Ext H M H1 M1) (d : Dok Y.X.K H1 M1) : Std Y s H1 σ M1 := ⟨S.e.trans e, d, S.s.ext e⟩
theorem Std.set (S : Std Y s H σ M) {v : V} {w : W} (r : Wv Y.X.K H M v w) (i : Nat) : Std Y (s.set i (some v)) H (σ.set i (some w)) M := ⟨S.e, S.d, S.s.set r i⟩
theorem up.trans {Q : W → MH → Prop} (e : Ext H M H1 M1) {v : V} {H2 : Hp} (h : up Y H1 M1 Q v H2) : up Y H M Q v H2 := by
  obtain ⟨w, M', e', d, r, q⟩ := h
  exact ⟨w, M', e.trans e', d, r, q⟩
theorem upB.trans {Q : Bool → MH → Prop} (e : Ext H M H1 M1) {v : Bool} {H2 : Hp} (h : upB Y H1 M1 Q v H2) : upB Y H M Q v H2 := by
  obtain ⟨M', e', d, q⟩ := h
  exact ⟨M', e.trans e', d, q⟩
theorem upA.trans {Q : List W → MH → Prop} (e : Ext H M H1 M1) {v : List V} {H2 : Hp} (h : upA Y H1 M1 Q v H2) : upA Y H M Q v H2 := by
  obtain ⟨w, M', e', d, r, q⟩ := h
  exact ⟨w, M', e.trans e', d, r, q⟩
theorem QE.then_ {e : Expr} {t : TEd} (h : QE Y e t) (S : Std Y s H σ M) {Q : W → MH → Prop} (q : t σ M Q) {R : VK}
    (k : ∀ v H1 w M1, Ext H M H1 M1 → Dok Y.X.K H1 M1 → Wv Y.X.K H1 M1 v w → Q w M1 → R v H1) : semE Y.X e s H R :=
  semE_mono (h.run s H σ M Q S q) fun v H1 ⟨w, M1, e, d, r, q⟩ => k v H1 w M1 e d r q
theorem QT.then_ {e : Expr} {t : TTd} (h : QT Y e t) (S : Std Y s H σ M) {Q : Bool → MH → Prop} (q : t σ M Q) {R : Bool → Hp → Prop}
    (k : ∀ v H1 M1, Ext H M H1 M1 → Dok Y.X.K H1 M1 → Q v M1 → R v H1) : semT Y.X e s H R :=
  semT_mono (h.run s H σ M Q S q) fun v H1 ⟨M1, e, d, q⟩ => k v H1 M1 e d q
theorem QA.then_ {es : List Expr} {t : TAd} (h : QA Y es t) (S : Std Y s H σ M) {Q : List W → MH → Prop} (q : t σ M Q) {R : List V → Hp → Prop}
    (k : ∀ v H1 w M1, Ext H M H1 M1 → Dok Y.X.K H1 M1 → WvA Y.X.K H1 M1 v w → Q w M1 → R v H1) : semA Y.X es s H R :=
  semA_mono (h.run s H σ M Q S q) fun v H1 ⟨w, M1, e, d, r, q⟩ => k v H1 w M1 e d r q
theorem Std.here {Q : W → MH → Prop} (S : Std Y s H σ M) {v : V} {w : W} (r : Wv Y.X.K H M v w) (q : Q w M) : up Y H M Q v H := ⟨w, M, .refl _ _, S.d, r, q⟩
theorem upS.trans {Q : SD → MH → Prop} (e : Ext H M H1 M1) {s2 : L2.St} {H2 : Hp} (h : upS Y H1 M1 Q s2 H2) : upS Y H M Q s2 H2 := by
  obtain ⟨σ', M', e', S, q⟩ := h
  exact ⟨σ', M', e.trans e', S, q⟩
theorem semS_mono {X : Cx} {st : Stmt} {s : L2.St} {H : Hp} {D D' : Ends} (h : semS X st D s H) (h1 : ∀ σ H, D.nx σ H → D'.nx σ H) (h2 : ∀ v H, D.rt v H → D'.rt v H) (h3 : ∀ σ H, D.bk σ H → D'.bk σ H) (h4 : ∀ σ H, D.ct σ H → D'.ct σ H) : semS X st D' s H :=
  fun pins sh I => thn (h pins sh I) fun _ _ z => SP.mono z h1 h2 h3 h4
theorem semSs_mono {X : Cx} {st : List Stmt} {s : L2.St} {H : Hp} {D D' : Ends} (h : semSs X st D s H) (h1 : ∀ σ H, D.nx σ H → D'.nx σ H) (h2 : ∀ v H, D.rt v H → D'.rt v H) (h3 : ∀ σ H, D.bk σ H → D'.bk σ H) (h4 : ∀ σ H, D.ct σ H → D'.ct σ H) : semSs X st D' s H :=
  fun pins sh I => thn (h pins sh I) fun _ _ z => SP.mono z h1 h2 h3 h4
theorem semSs_up {st : List Stmt} {D : EndsD} {s2 : L2.St} {H2 : Hp} (e : Ext H M H1 M1) (h : semSs Y.X st (upD Y H1 M1 D) s2 H2) : semSs Y.X st (upD Y H M D) s2 H2 :=
  semSs_mono h (fun _ _ z => z.trans e) (fun _ _ z => z.trans e) (fun _ _ z => z.trans e) fun _ _ z => z.trans e
end
end Dl
set_option Elab.async false
set_option linter.all false
set_option maxRecDepth 100000
namespace Dl
open PySem PySem.Spec PyProof.Rows L2

/-! ### reading data off the machine's heap -/
section
variable {X : Cx} {pins : List (Addr × Obj)} {s : L2.St} {H : Hp} {sh : Shared} {M : MH}
theorem key_read {h : Heap} {k : Key} {u : Value} (e : keyIs k u = true) : Reads h u (keyD k) [] := by
  rcases keyIs_shape e with ⟨i, t, rfl, rfl⟩ | ⟨x, t, rfl, rfl⟩
  · exact .int i t
  · exact .str x t
theorem keys_read {h : Heap} : ∀ {ks : List Key} {us : List Value}, Vals (ks.map kV) us → ReadsAll h us (ks.map keyD) []
  | [], _, r => by cases r; exact .nil
  | k :: ks, us, r => by
    cases r with
    | cons r1 r2 =>
      rename_i u ur
      have h1 : Reads h u (keyD k) [] := by
        cases k with
        | inl i => obtain ⟨t, rfl⟩ := r1; exact .int i t
        | inr x => obtain ⟨t, rfl⟩ := r1; exact .str x t
      exact .cons h1 (keys_read r2)
theorem seq_notSys (I : Inv X pins s H sh) (hsy : SysOk X.base) {a : Addr} {o : Obj} {vs : Array Value} {n : Nat} (e : sh.heap.get? a = some o) (d : o.data = .seq vs n) : a ≠ sysModules := fun z => by
  obtain ⟨o', es, m, e', d'⟩ := hsy
  have q := I.bk _ _ e'
  rw [← z, e] at q
  cases q
  rw [d] at d'
  cases d'
mutual
theorem Fz.reads (I : Inv X pins s H sh) (hsy : SysOk X.base) : ∀ (d : PyData) (v : V) (u : Value), Fz X.K H M v d → RelV v u → ∃ as, Reads sh.heap u d as ∧ sysModules ∉ as
  | .none, _, _, h, r => by cases h; cases r; exact ⟨_, .none, by simp⟩
  | .bool b, _, _, h, r => by cases h; cases r; exact ⟨_, .bool b, by simp⟩
  | .int i, _, _, h, r => by cases h; obtain ⟨t, rfl⟩ := r; exact ⟨_, .int i t, by simp⟩
  | .str x, _, _, h, r => by cases h; obtain ⟨t, rfl⟩ := r; exact ⟨_, .str x t, by simp⟩
  | .list ds, _, _, h, r => by
    cases h with
    | lst hs ha =>
      cases r
      obtain ⟨its, rv, ⟨o, n, ho, hc, _, hd⟩, _⟩ := I.list hs.sq
      obtain ⟨as, hr, z⟩ := FzA.reads I hsy ds _ its ha rv
      exact ⟨_, .list ho hc hd hr, by simp only [List.mem_cons, not_or]; exact ⟨fun e => seq_notSys I hsy ho hd e.symm, z⟩⟩
  | .tuple ds, _, _, h, r => by
    cases h with
    | tup hs ha =>
      cases r
      obtain ⟨its, rv, ⟨o, ho, hc, n, hd⟩, _⟩ := I.tuple hs.sq
      obtain ⟨as, hr, z⟩ := FzA.reads I hsy ds _ its ha rv
      exact ⟨_, .tuple ho hc hd hr, z⟩
  | .dict ds, _, _, h, r => by
    cases h with
    | dK h1 h2 h3 =>
      cases r
      obtain ⟨_, hz, vs, kv, o, es, ep, ho, ex, hd, _, hp, _⟩ := I.hok _ _ h1
      obtain ⟨as, bs, q1, q2, z1, z2⟩ := FzK.reads I hsy ds _ vs es.toList h3 kv hp
      refine ⟨_, .dict ho ex.1 hd q1 q2, ?_⟩
      simp only [List.cons_append, List.mem_cons, List.mem_append, not_or]
      exact ⟨fun e => by simp [← e] at hz, z1, z2⟩
    | dT h1 h2 h3 =>
      cases r
      obtain ⟨_, hz, xs, pr, o, es, ep, ho, ex, hd, he, _⟩ := I.hok _ _ h1
      obtain ⟨as, bs, q1, q2, z1, z2⟩ := FzT.reads I hsy ds _ xs h3 pr
      refine ⟨_, .dict ho ex.1 hd (as := as) (bs := bs) ?_ ?_, ?_⟩
      · rw [he, List.map_map]; exact q1
      · rw [he, List.map_map]; exact q2
      · simp only [List.cons_append, List.mem_cons, List.mem_append, not_or]
        exact ⟨fun e => by simp [← e] at hz, z1, z2⟩
theorem FzA.reads (I : Inv X pins s H sh) (hsy : SysOk X.base) : ∀ (ds : List PyData) (vs : List V) (us : List Value), FzA X.K H M vs ds → Vals vs us → ∃ as, ReadsAll sh.heap us ds as ∧ sysModules ∉ as
  | [], _, _, h, r => by cases h; cases r; exact ⟨_, .nil, by simp⟩
  | d :: ds, _, _, h, r => by
    cases h with
    | cons h1 h2 =>
      cases r with
      | cons r1 r2 =>
        obtain ⟨as, q1, z1⟩ := Fz.reads I hsy d _ _ h1 r1
        obtain ⟨bs, q2, z2⟩ := FzA.reads I hsy ds _ _ h2 r2
        exact ⟨_, .cons q1 q2, by simp only [List.mem_append, not_or]; exact ⟨z1, z2⟩⟩
theorem FzK.reads (I : Inv X pins s H sh) (hsy : SysOk X.base) : ∀ (ds : List (PyData × PyData)) (kvs : List (Key × V)) (vs : List (Key × Value)) (es : List DictEntry), FzK X.K H M kvs ds → KV kvs vs → Pairs (mixKind X.prog X.w) es vs →
    ∃ as bs, ReadsAll sh.heap (es.map (·.key)) (ds.map (·.1)) as ∧ ReadsAll sh.heap (es.map (·.val)) (ds.map (·.2)) bs ∧ sysModules ∉ as ∧ sysModules ∉ bs
  | [], _, _, _, h, r, p => by cases h; cases r; cases p; exact ⟨_, _, .nil, .nil, by simp, by simp⟩
  | (kd, d) :: ds, _, _, _, h, r, p => by
    cases h with
    | cons h1 h2 =>
      cases r with
      | cons r1 r2 =>
        cases p with
        | cons p1 p2 p3 =>
          obtain ⟨a1, q1, z1⟩ := Fz.reads I hsy d _ _ h1 r1.2
          obtain ⟨as, bs, q2, q3, z2, z3⟩ := FzK.reads I hsy ds _ _ _ h2 r2 p3
          rw [← p2] at q1
          refine ⟨_, _, .cons (key_read (k := _) ?_) q2, .cons q1 q3, ?_, ?_⟩
          · have p1' : keyIs _ _ = true := p1
            rw [← r1.1] at p1'
            exact p1'
          · simpa using z2
          · simp only [List.mem_append, not_or]; exact ⟨z1, z3⟩
theorem FzT.reads (I : Inv X pins s H sh) (hsy : SysOk X.base) : ∀ (ds : List (PyData × PyData)) (kvs : List (List Key × V)) (xs : List (List Key × Addr × Value)), FzT X.K H M kvs ds →
    Paired (fun (p : List Key × V) (q : List Key × Addr × Value) => p.1 = q.1 ∧ H q.2.1 = some (.tup (p.1.map kV)) ∧ RelV p.2 q.2.2) kvs xs →
    ∃ as bs, ReadsAll sh.heap (xs.map ((·.key) ∘ entryOfKey (tupleKind (mixKind X.prog X.w)))) (ds.map (·.1)) as ∧ ReadsAll sh.heap (xs.map ((·.val) ∘ entryOfKey (tupleKind (mixKind X.prog X.w)))) (ds.map (·.2)) bs ∧ sysModules ∉ as ∧ sysModules ∉ bs
  | [], _, _, h, r => by cases h; cases r; exact ⟨_, _, .nil, .nil, by simp, by simp⟩
  | (kd, d) :: ds, _, _, h, r => by
    cases h with
    | cons h1 h2 =>
      cases r with
      | cons r1 r2 =>
        obtain ⟨e1, e2, e3⟩ := r1
        obtain ⟨a1, q1, z1⟩ := Fz.reads I hsy d _ _ h1 e3
        obtain ⟨as, bs, q2, q3, z2, z3⟩ := FzT.reads I hsy ds _ _ h2 r2
        obtain ⟨its, rv, ⟨o, ho, hc, n, hd⟩, _⟩ := I.tuple (SqT.of (K := X.K) e2)
        refine ⟨_, _, .cons (.tuple ho hc hd (keys_read rv)) q2, .cons q1 q3, ?_, ?_⟩
        · simpa using z2
        · simp only [List.mem_append, not_or]; exact ⟨z1, z3⟩
end
end
end Dl
set_option Elab.async false
set_option linter.all false
set_option maxRecDepth 100000
namespace Dl
open PySem PySem.Spec PyProof.Rows L2

/-! ### operations by what they do -/
def semO (X : Cx) (f : Value → Value → Sem Value) : R2 := fun x y H Q => ∀ pins sh s v u, Inv X pins s H sh → RelV x v → RelV y u → wpAny (model X.prog X.w) X.A (f v u) (EP X pins s Q) X.xe sh
theorem op_sem {X : Cx} {f : Value → Value → Sem Value} : OpR X f (semO X f) := fun pins sh s _ _ _ v u _ I rx ry h => h pins sh s v u I rx ry
theorem semO_of {X : Cx} {f : Value → Value → Sem Value} {r : R2} (h : OpR X f r) {x y : V} {H : Hp} {Q : VK} (q : r x y H Q) : semO X f x y H Q := fun pins sh s v u I rx ry => h pins sh s H x y v u Q I rx ry q
theorem semO_mono {X : Cx} {f : Value → Value → Sem Value} {x y : V} {H : Hp} {Q Q' : VK} (h : semO X f x y H Q) (k : ∀ v H', Q v H' → Q' v H') : semO X f x y H Q' := fun pins sh s v u I rx ry =>
  thn (h pins sh s v u I rx ry) fun _ _ ⟨v, H', I', r, q⟩ => ⟨v, H', I', r, k v H' q⟩
def semC (X : Cx) (f : Value) : List V → Hp → VK → Prop := fun xs H Q => ∀ pins sh s us, Inv X pins s H sh → Vals xs us → wpAny (model X.prog X.w) X.A (call f us) (EP X pins s Q) X.xe sh
theorem call_sem {X : Cx} {f : Value} : CallR X f (semC X f) := fun pins sh s _ _ us _ I r h => h pins sh s us I r
theorem semC_of {X : Cx} {f : Value} {r : List V → Hp → VK → Prop} (h : CallR X f r) {xs : List V} {H : Hp} {Q : VK} (q : r xs H Q) : semC X f xs H Q := fun pins sh s us I rv => h pins sh s H xs us Q I rv q
theorem semC_mono {X : Cx} {f : Value} {xs : List V} {H : Hp} {Q Q' : VK} (h : semC X f xs H Q) (k : ∀ v H', Q v H' → Q' v H') : semC X f xs H Q' := fun pins sh s us I r =>
  thn (h pins sh s us I r) fun _ _ ⟨v, H', I', r, q⟩ => ⟨v, H', I', r, k v H' q⟩
def semI (X : Cx) : R2 := fun x y H Q => ∀ pins sh s v u, Inv X pins s H sh → RelV x v → RelV y u → wpAny (model X.prog X.w) X.A (getItem v u) (EP X pins s Q) X.xe sh

abbrev R2d := W → W → MH → (W → MH → Prop) → Prop
abbrev R1d := W → MH → (W → MH → Prop) → Prop
abbrev RCd := List W → MH → (W → MH → Prop) → Prop
/-- a two-place operation over data -/
def Op2 (Y : Dx) (f : Value → Value → Sem Value) (r : R2d) : Prop := ∀ s H σ M x y a b Q, Std Y s H σ M → Wv Y.X.K H M x a → Wv Y.X.K H M y b → r a b M Q → semO Y.X f x y H (up Y H M Q)
/-- a call of a built-in with data -/
def OpC (Y : Dx) (f : Value) (r : RCd) : Prop := ∀ s H σ M xs ws Q, Std Y s H σ M → WvA Y.X.K H M xs ws → r ws M Q → semC Y.X f xs H (up Y H M Q)

/-! ### values from data -/
section
variable {K : PySem.W.Frag} {H : Hp} {M : MH} {v : V}
theorem Wv.int {i : Int} (h : Wv K H M v (.d (.int i))) : v = .int i := by cases h; rfl
theorem Wv.bool {b : Bool} (h : Wv K H M v (.d (.bool b))) : v = .bl b := by cases h; rfl
theorem Wv.str {x : Str} (h : Wv K H M v (.d (.str x))) : v = .str x := by cases h; rfl
theorem Wv.none (h : Wv K H M v (.d .none)) : v = .non := by cases h; rfl
theorem wInt (i : Int) : Wv K H M (.int i) (.d (.int i)) := Fz.int i
theorem wBool (b : Bool) : Wv K H M (.bl b) (.d (.bool b)) := Fz.bl b
theorem wStr (x : Str) : Wv K H M (.str x) (.d (.str x)) := Fz.str x
theorem wNone : Wv K H M .non (.d .none) := Fz.non
theorem Wv.tup {ds : List PyData} (h : Wv K H M v (.d (.tuple ds))) : ∃ a xs, v = .ref a ∧ FT K H M a xs ∧ FzA K H M xs ds := by cases h with | tup h1 h2 => exact ⟨_, _, rfl, h1, h2⟩
theorem Wv.lst {ds : List PyData} (h : Wv K H M v (.d (.list ds))) : ∃ a xs, v = .ref a ∧ FL H M a xs ∧ FzA K H M xs ds := by cases h with | lst h1 h2 => exact ⟨_, _, rfl, h1, h2⟩
end
section
variable {Y : Dx} {s : L2.St} {H : Hp} {σ : SD} {M : MH} {Q : W → MH → Prop}
theorem std_new (S : Std Y s H σ M) {p : Addr} (n : H p = none) {o : HO} {x : PyData} (k : Ext H M (upd H p o) M → M p = none → Fz Y.X.K (upd H p o) M (.ref p) x) (q : Q (.d x) M) : up Y H M Q (.ref p) (upd H p o) := by
  have m := S.d.free n
  have e := ext_new (o := o) n m
  exact ⟨.d x, M, e, dok_new S.d n, k e m, q⟩
theorem up_tup (S : Std Y s H σ M) {p : Addr} (n : H p = none) {xs : List V} {ds : List PyData} (h : FzA Y.X.K H M xs ds) (q : Q (.d (.tuple ds)) M) : up Y H M Q (.ref p) (upd H p (.tup xs)) :=
  std_new S n (fun e m => .tup (.inl ⟨.inl upd_same, m⟩) (FzA.ext e ds xs h)) q
theorem up_lst (S : Std Y s H σ M) {p : Addr} (n : H p = none) {xs : List V} {ds : List PyData} (h : FzA Y.X.K H M xs ds) (q : Q (.d (.list ds)) M) : up Y H M Q (.ref p) (upd H p (.lst xs)) :=
  std_new S n (fun e m => .lst ⟨upd_same, m⟩ (FzA.ext e ds xs h)) q
theorem up_mut (S : Std Y s H σ M) {p : Addr} (n : H p = none) {xs : List V} {ws : List W} (h : WvA Y.X.K H M xs ws) (q : Q (.ref p) (mset M p (.lst ws))) : up Y H M Q (.ref p) (upd H p (.lst xs)) :=
  ⟨.ref p, _, ext_mut (.inr n), dok_mut (u := .lst ws) S.d (.inr n) fun e => ⟨xs, upd_same, WvA.ext e h⟩, rfl, q⟩
/-- a tracked list that may change is changed -/
theorem up_set (S : Std Y s H σ M) {p : Addr} {ws0 : List W} (m : M p = some (.lst ws0)) {xs : List V} {ws : List W} (h : WvA Y.X.K H M xs ws) {v : V} {w : W} (hv : Wv Y.X.K H M v w) (q : Q w (mset M p (.lst ws))) : up Y H M Q v (upd H p (.lst xs)) := by
  have nn : M p ≠ none := by rw [m]; exact fun z => by cases z
  have e : Ext H M (upd H p (.lst xs)) (mset M p (.lst ws)) := ext_mut (.inl nn)
  exact ⟨w, _, e, dok_mut (u := .lst ws) S.d (.inl nn) fun e => ⟨xs, upd_same, WvA.ext e h⟩, hv.ext e, q⟩
end

/-! ### names, constants -/
def slotQ : SD → Nat → (W → Prop) → Prop
  | [], _, _ => False
  | o :: _, 0, Q => match o with | some w => Q w | none => False
  | _ :: t, n + 1, Q => slotQ t n Q
theorem slotQ_get : ∀ {σ : SD} {i : Nat} {Q : W → Prop}, slotQ σ i Q → ∃ w, σ[i]? = some (some w) ∧ Q w
  | [], _, _, h => h.elim
  | o :: _, 0, Q, h => by
    cases o with
    | none => exact (show False from h).elim
    | some w => exact ⟨w, rfl, h⟩
  | _ :: t, n + 1, Q, h => slotQ_get (σ := t) (i := n) h
def tVar (i : Nat) : TEd := fun σ M Q => slotQ σ i fun w => Q w M
def tK (x : PyData) : TEd := fun _ M Q => Q (.d x) M
section
variable {g : Gc} {i : Si} {k : Nat} {Y : Dx}
theorem q_var (F : Fm g i k Y) (j : Nat) {x : Str} {pos : Pos} (hN : i.N[j]? = some x := by rfl) (hv : i.vis.contains j = true := by rfl) : QE Y (.Name x pos) (tVar j) := by
  refine ⟨fun s H σ M Q S h => ?_⟩
  obtain ⟨w, e, q⟩ := slotQ_get h
  obtain ⟨v, ev, r⟩ := S.s.get e
  obtain ⟨h1, h2, h3⟩ := F.var j x hv hN
  exact semE_of (pe_var (i := j) (by rw [F.N]; exact hN) h1 h2 h3) ⟨v, ev, S.here r q⟩
theorem q_int {Y : Dx} {n j pos} : QE Y (.Constant (.int n) j pos) (tK (.int n)) := ⟨fun _ _ _ _ _ S h => semE_of pe_int (S.here (wInt n) h)⟩
theorem q_bool {Y : Dx} {b j pos} : QE Y (.Constant (.bool b) j pos) (tK (.bool b)) := ⟨fun _ _ _ _ _ S h => semE_of pe_bl (S.here (wBool b) h)⟩
theorem q_none {Y : Dx} {j pos} : QE Y (.Constant .none j pos) (tK .none) := ⟨fun _ _ _ _ _ S h => semE_of pe_non (S.here wNone h)⟩
theorem q_str {Y : Dx} {x j pos} : QE Y (.Constant (.str x) j pos) (tK (.str x)) := ⟨fun _ _ _ _ _ S h => semE_of pe_str (S.here (wStr x) h)⟩
/-- a constant of the module -/
theorem q_glob (F : Fm g i k Y) (j : Nat) {x : Str} {pos : Pos} {v : V} {u : Value} {d : PyData} (hm : g.mg x = some u) (r : RelV v u) (hd : ∀ H M, Fz g.K H M v d) (hj : i.gls[j]? = some x := by rfl) : QE Y (.Name x pos) (tK d) := by
  obtain ⟨h1, h2, h3⟩ := F.glo j x hj
  exact ⟨fun s H σ M Q S h => semE_of (pe_glob h1 (by rw [F.hmg]; exact hm) r h2) (S.here (w := .d d) (by rw [F.hK]; exact hd H M) h)⟩

/-! ### operators -/
def tBin (r : R2d) (ta tb : TEd) : TEd := fun σ M Q => ta σ M fun x M1 => tb σ M1 fun y M2 => r x y M2 Q
theorem bin_run {f : Value → Value → Sem Value} {r : R2d} {a b : Expr} {ta tb : TEd} (ho : Op2 Y f r) (ha : QE Y a ta) (hb : QE Y b tb) {s H σ M Q} (S : Std Y s H σ M) (h : tBin r ta tb σ M Q) :
    tOp (semO Y.X f) (semE Y.X a) (semE Y.X b) s H (up Y H M Q) :=
  ha.then_ S h fun _ H1 _ _ e d rv q => hb.then_ (S.go e d) q fun _ _ _ _ e2 d2 rv2 q2 => semO_mono (ho _ _ _ _ _ _ _ _ _ ((S.go e d).go e2 d2) (rv.ext e2) rv2 q2) fun _ _ z => z.trans (e.trans e2)
theorem q_bin {op : Operator} {r : R2d} {a b : Expr} {ta tb : TEd} {pos : Pos} (ho : Op2 Y (binaryOp op) r) (ha : QE Y a ta) (hb : QE Y b tb) : QE Y (.BinOp a op b pos) (tBin r ta tb) :=
  ⟨fun _ _ _ _ _ S h => semE_of (pe_op op_sem pe_sem pe_sem) (bin_run ho ha hb S h)⟩
theorem q_cmp {op : CmpOp} {r : R2d} {a b : Expr} {ta tb : TEd} {pos : Pos} (ho : Op2 Y (compareOp op) r) (ha : QE Y a ta) (hb : QE Y b tb) (hm : behindInMarks op b = false := by first | exact nomark _ | rfl) : QE Y (.Compare a [op] [b] pos) (tBin r ta tb) :=
  ⟨fun _ _ _ _ _ S h => semE_of (pe_cmpR op_sem pe_sem pe_sem hm) (bin_run ho ha hb S h)⟩
def boolQ (Q : Bool → MH → Prop) : W → MH → Prop := fun w M => match w with | .d (.bool b) => Q b M | _ => False
theorem boolQ_get {Q : Bool → MH → Prop} {w : W} {M : MH} (h : boolQ Q w M) : ∃ b, w = .d (.bool b) ∧ Q b M := by
  cases w with
  | d x => cases x with
    | bool b => exact ⟨b, rfl, h⟩
    | _ => exact (show False from h).elim
  | _ => exact (show False from h).elim
/-- an expression that gives a truth, as a test -/
def tTst (t : TEd) : TTd := fun σ M Q => t σ M (boolQ Q)
theorem up_bool {H : Hp} {M : MH} {Q : Bool → MH → Prop} {v : V} {H' : Hp} (h : up Y H M (boolQ Q) v H') : ∃ c, v = .bl c ∧ upB Y H M Q c H' := by
  obtain ⟨w, M', e, d, r, q⟩ := h
  obtain ⟨b, rfl, q0⟩ := boolQ_get q
  exact ⟨b, r.bool, M', e, d, q0⟩
theorem t_cmp {op : CmpOp} {r : R2d} {a b : Expr} {ta tb : TEd} {pos : Pos} (ho : Op2 Y (compareOp op) r) (ha : QE Y a ta) (hb : QE Y b tb) (hm : behindInMarks op b = false := by first | exact nomark _ | rfl) : QT Y (.Compare a [op] [b] pos) (tTst (tBin r ta tb)) := by
  refine ⟨fun s H σ M Q S h => semT_of (pt_cmpR op_sem pe_sem pe_sem hm) ?_⟩
  have z := bin_run ho ha hb S h
  exact semE_mono z fun _ _ z1 => semE_mono z1 fun _ _ z2 => semO_mono z2 fun _ _ z3 => up_bool z3
theorem t_val {e : Expr} {t : TEd} (h : QE Y e t) (he : ∀ whole, isTrue e Y.X.env whole = (do let v ← whole; standAt e.pos; holding [v] (truthy v)) := by intro _; rfl) : QT Y e (tTst t) :=
  ⟨fun s H σ M Q S hq => semT_of (pt_val pe_sem he) (semE_mono (h.run s H σ M _ S hq) fun _ _ z => up_bool z)⟩
/-- a op1 b op2 c -/
def tChn (r r' : R2d) (ta tb tc : TEd) : TEd := fun σ M Q => ta σ M fun x M1 => tb σ M1 fun y M2 => r x y M2 (boolQ fun k M3 => if k = true then tc σ M3 fun z M4 => r' y z M4 Q else Q (.d (.bool false)) M3)
theorem chain_run {f f' : Value → Value → Sem Value} {r r' : R2d} {a b c : Expr} {ta tb tc : TEd} (ho : Op2 Y f r) (ho' : Op2 Y f' r') (ha : QE Y a ta) (hb : QE Y b tb) (hc : QE Y c tc) {s H σ M Q} (S : Std Y s H σ M) (h : tChn r r' ta tb tc σ M Q) :
    tChain (semO Y.X f) (semO Y.X f') (semE Y.X a) (semE Y.X b) (semE Y.X c) s H (up Y H M Q) := by
  refine ha.then_ S h fun _ H1 _ _ e d rv q => hb.then_ (S.go e d) q fun _ _ _ _ e2 d2 rv2 q2 => ?_
  have S2 := (S.go e d).go e2 d2
  refine semO_mono (ho _ _ _ _ _ _ _ _ _ S2 (rv.ext e2) rv2 q2) fun _ _ z => ?_
  obtain ⟨w, M3, e3, d3, r3, q3⟩ := z
  obtain ⟨b', rfl, q0⟩ := boolQ_get q3
  clear q3
  have q3 := q0
  clear q0
  refine ⟨b', r3.bool, ?_⟩
  cases b' with
  | true =>
    refine iteT ?_
    refine hc.then_ (S2.go e3 d3) (show tc σ M3 _ from by simpa using q3) fun _ _ _ _ e4 d4 rv4 q4 => ?_
    exact semO_mono (ho' _ _ _ _ _ _ _ _ _ ((S2.go e3 d3).go e4 d4) (rv2.ext (e3.trans e4)) rv4 q4) fun _ _ z => z.trans ((e.trans e2).trans (e3.trans e4))
  | false =>
    refine iteF ?_
    exact ⟨_, M3, (e.trans e2).trans e3, d3, wBool false, by simpa using q3⟩
theorem q_chn {op op' : CmpOp} {r r' : R2d} {a b c : Expr} {ta tb tc : TEd} {pos : Pos} (ho : Op2 Y (compareOp op) r) (ho' : Op2 Y (compareOp op') r') (ha : QE Y a ta) (hb : QE Y b tb) (hc : QE Y c tc)
    (hm : lastMarks [op, op'] [b, c] = false := by with_unfolding_all rfl) : QE Y (.Compare a [op, op'] [b, c] pos) (tChn r r' ta tb tc) :=
  ⟨fun _ _ _ _ _ S h => semE_of (pe_chain op_sem op_sem pe_sem pe_sem pe_sem hm) (chain_run ho ho' ha hb hc S h)⟩
theorem t_chn {op op' : CmpOp} {r r' : R2d} {a b c : Expr} {ta tb tc : TEd} {pos : Pos} (ho : Op2 Y (compareOp op) r) (ho' : Op2 Y (compareOp op') r') (ha : QE Y a ta) (hb : QE Y b tb) (hc : QE Y c tc)
    (hm : lastMarks [op, op'] [b, c] = false := by with_unfolding_all rfl) : QT Y (.Compare a [op, op'] [b, c] pos) (tTst (tChn r r' ta tb tc)) := by
  refine ⟨fun s H σ M Q S h => semT_of (pt_chain op_sem op_sem pe_sem pe_sem pe_sem hm) ?_⟩
  have z := chain_run ho ho' ha hb hc S h
  refine semE_mono z fun _ _ z1 => semE_mono z1 fun _ _ z2 => semO_mono z2 fun _ _ ⟨k, e, z3⟩ => ⟨k, e, ?_⟩
  cases k with
  | true => exact iteT (semE_mono (by simpa using z3) fun _ _ z4 => semO_mono z4 fun _ _ z5 => up_bool z5)
  | false => exact iteF (up_bool (by simpa using z3))

/-! ### and, or, not, if -/
def tAndT (t u : TTd) : TTd := fun σ M Q => t σ M fun c M1 => if c = true then u σ M1 Q else Q false M1
def tOrT (t u : TTd) : TTd := fun σ M Q => t σ M fun c M1 => if c = true then Q true M1 else u σ M1 Q
def tNotT (t : TTd) : TTd := fun σ M Q => t σ M fun c M1 => Q (!c) M1
theorem QW.pt {e : Expr} {t : TTd} (h : QW Y e t) : QT Y e t := ⟨fun s H σ M Q S hq => semT_of pw_sem.pt (h.run s H σ M Q S hq)⟩
theorem w_and1 {a : Expr} {t : TTd} {pos : Pos} (ha : QT Y a t) : QW Y (.BoolOp .And [a] pos) t := ⟨fun s H σ M Q S hq => semW_of (pw_and1 pt_sem) (ha.run s H σ M Q S hq)⟩
theorem w_or1 {a : Expr} {t : TTd} {pos : Pos} (ha : QT Y a t) : QW Y (.BoolOp .Or [a] pos) t := ⟨fun s H σ M Q S hq => semW_of (pw_or1 pt_sem) (ha.run s H σ M Q S hq)⟩
theorem semW_mono {X : Cx} {e : Expr} {s : L2.St} {H : Hp} {Q Q' : Bool → Hp → Prop} (h : semW X e s H Q) (k : ∀ v H', Q v H' → Q' v H') : semW X e s H Q' := fun wh pins sh I =>
  thn (h wh pins sh I) fun _ _ ⟨H', I', q⟩ => ⟨H', I', k _ H' q⟩
theorem w_and {a b : Expr} {rest : List Expr} {t u : TTd} {pos : Pos} (ha : QT Y a t) (hb : QW Y (.BoolOp .And (b :: rest) pos) u) : QW Y (.BoolOp .And (a :: b :: rest) pos) (tAndT t u) := by
  refine ⟨fun s H σ M Q S hq => semW_of (pw_and pt_sem pw_sem) (ha.then_ S hq fun c H1 M1 e d q => ?_)⟩
  cases c with
  | true => exact iteT (semW_mono (hb.run s H1 σ M1 Q (S.go e d) (by simpa using q)) fun _ _ z => z.trans e)
  | false => exact iteF ⟨M1, e, d, by simpa using q⟩
theorem w_or {a b : Expr} {rest : List Expr} {t u : TTd} {pos : Pos} (ha : QT Y a t) (hb : QW Y (.BoolOp .Or (b :: rest) pos) u) : QW Y (.BoolOp .Or (a :: b :: rest) pos) (tOrT t u) := by
  refine ⟨fun s H σ M Q S hq => semW_of (pw_or pt_sem pw_sem) (ha.then_ S hq fun c H1 M1 e d q => ?_)⟩
  cases c with
  | true => exact iteT ⟨M1, e, d, by simpa using q⟩
  | false => exact iteF (semW_mono (hb.run s H1 σ M1 Q (S.go e d) (by simpa using q)) fun _ _ z => z.trans e)
theorem t_not {a : Expr} {t : TTd} {pos : Pos} (ha : QT Y a t) : QT Y (.UnaryOp .Not a pos) (tNotT t) :=
  ⟨fun s H σ M Q S hq => semT_of (pt_not pt_sem) (ha.run s H σ M (fun c M1 => Q (!c) M1) S hq)⟩
/-- as values, all of them truths -/
def tAnd2 (ta tb : TEd) : TEd := fun σ M Q => ta σ M (boolQ fun c M1 => if c = true then tb σ M1 Q else Q (.d (.bool false)) M1)
def tOr2 (ta tb : TEd) : TEd := fun σ M Q => ta σ M (boolQ fun c M1 => if c = true then Q (.d (.bool true)) M1 else tb σ M1 Q)
def tNot2 (ta : TEd) : TEd := fun σ M Q => ta σ M (boolQ fun c M1 => Q (.d (.bool !c)) M1)
theorem q_one {op} {a : Expr} {t : TEd} {pos : Pos} (h : QE Y a t) : QE Y (.BoolOp op [a] pos) t := ⟨fun s H σ M Q S hq => semE_of (pe_one pe_sem) (h.run s H σ M Q S hq)⟩
theorem q_and {a b : Expr} {rest : List Expr} {t u : TEd} {pos : Pos} (ha : QE Y a t) (hb : QE Y (.BoolOp .And (b :: rest) pos) u) : QE Y (.BoolOp .And (a :: b :: rest) pos) (tAnd2 t u) := by
  refine ⟨fun s H σ M Q S hq => semE_of (pe_and pe_sem pe_sem) (ha.then_ S hq fun v H1 w M1 e d r q => ?_)⟩
  obtain ⟨c, rfl, q0⟩ := boolQ_get q
  clear q
  have q := q0
  clear q0
  refine ⟨c, r.bool, ?_⟩
  cases c with
  | true => exact iteT (semE_mono (hb.run s H1 σ M1 Q (S.go e d) (by simpa using q)) fun _ _ z => z.trans e)
  | false => exact iteF ⟨_, M1, e, d, wBool false, by simpa using q⟩
theorem q_or {a b : Expr} {rest : List Expr} {t u : TEd} {pos : Pos} (ha : QE Y a t) (hb : QE Y (.BoolOp .Or (b :: rest) pos) u) : QE Y (.BoolOp .Or (a :: b :: rest) pos) (tOr2 t u) := by
  refine ⟨fun s H σ M Q S hq => semE_of (pe_or pe_sem pe_sem) (ha.then_ S hq fun v H1 w M1 e d r q => ?_)⟩
  obtain ⟨c, rfl, q0⟩ := boolQ_get q
  clear q
  have q := q0
  clear q0
  refine ⟨c, r.bool, ?_⟩
  cases c with
  | true => exact iteT ⟨_, M1, e, d, wBool true, by simpa using q⟩
  | false => exact iteF (semE_mono (hb.run s H1 σ M1 Q (S.go e d) (by simpa using q)) fun _ _ z => z.trans e)
theorem q_not {a : Expr} {t : TEd} {pos : Pos} (ha : QE Y a t) : QE Y (.UnaryOp .Not a pos) (tNot2 t) := by
  refine ⟨fun s H σ M Q S hq => semE_of (pe_not pe_sem) (ha.then_ S hq fun v H1 w M1 e d r q => ?_)⟩
  obtain ⟨c, rfl, q0⟩ := boolQ_get q
  clear q
  have q := q0
  clear q0
  exact ⟨c, r.bool, ⟨_, M1, e, d, wBool (!c), q⟩⟩
def tIte (t : TTd) (ta tb : TEd) : TEd := fun σ M Q => t σ M fun c M1 => if c = true then ta σ M1 Q else tb σ M1 Q
theorem q_ite {c a b : Expr} {t : TTd} {ta tb : TEd} {pos : Pos} (hc : QT Y c t) (ha : QE Y a ta) (hb : QE Y b tb) : QE Y (.IfExp c a b pos) (tIte t ta tb) := by
  refine ⟨fun s H σ M Q S hq => semE_of (pe_ifExp pt_sem pe_sem pe_sem) (hc.then_ S hq fun c H1 M1 e d q => ?_)⟩
  cases c with
  | true => exact iteT (semE_mono (ha.run s H1 σ M1 Q (S.go e d) (by simpa using q)) fun _ _ z => z.trans e)
  | false => exact iteF (semE_mono (hb.run s H1 σ M1 Q (S.go e d) (by simpa using q)) fun _ _ z => z.trans e)

/-! ### arguments, displays -/
def tNilA : TAd := fun _ M Q => Q [] M
def tConsA (t : TEd) (u : TAd) : TAd := fun σ M Q => t σ M fun x M1 => u σ M1 fun xs M2 => Q (x :: xs) M2
theorem a_nil : QA Y [] tNilA := ⟨fun _ _ _ _ _ S h => semA_of pa_nil ⟨[], _, .refl _ _, S.d, .nil, h⟩⟩
theorem a_cons {e : Expr} {es : List Expr} {t : TEd} {u : TAd} (ha : QE Y e t) (hr : QA Y es u) (hs : starEach (e :: es) Y.X.env = (false, eval e Y.X.env) :: starEach es Y.X.env := by rfl) : QA Y (e :: es) (tConsA t u) := by
  refine ⟨fun s H σ M Q S h => semA_of (pa_cons pe_sem pa_sem hs) (ha.then_ S h fun v H1 w M1 e d r q => hr.then_ (S.go e d) q fun vs H2 ws M2 e2 d2 r2 q2 => ?_)⟩
  exact ⟨w :: ws, M2, e.trans e2, d2, .cons (r.ext e2) r2, q2⟩
def allD : List W → Option (List PyData)
  | [] => some []
  | .d x :: r => (allD r).map (x :: ·)
  | _ => none
theorem allD_eq : ∀ {ws : List W} {ds : List PyData}, allD ws = some ds → ws = ds.map W.d
  | [], _, h => by cases h; rfl
  | .d x :: r, _, h => by
    unfold allD at h
    cases e : allD r with
    | none => rw [e] at h; cases h
    | some es =>
      rw [e] at h
      cases h
      rw [allD_eq e]
      rfl
  | .ref a :: r, _, h => by cases h
  | .scr a :: r, _, h => by cases h
theorem allD_map : ∀ (ds : List PyData), allD (ds.map W.d) = some ds
  | [] => rfl
  | d :: ds => by show (allD (ds.map W.d)).map (d :: ·) = _; rw [allD_map ds]; rfl
def dataQ (Q : List PyData → MH → Prop) (ws : List W) (M : MH) : Prop := match allD ws with | some ds => Q ds M | none => False
theorem dataQ_get {Q : List PyData → MH → Prop} {ws : List W} {M : MH} (h : dataQ Q ws M) : ∃ ds, ws = ds.map W.d ∧ Q ds M := by
  unfold dataQ at h
  cases e : allD ws with
  | none => rw [e] at h; exact h.elim
  | some ds => rw [e] at h; exact ⟨ds, allD_eq e, h⟩
def small (n : Nat) : Prop := n ≤ sizeLine
theorem small_of {n : Nat} (h : n ≤ 16777216) : small n := by unfold small; rw [sizeLine_eq]; exact h
def tTup (t : TAd) : TEd := fun σ M Q => t σ M (dataQ fun ds M1 => small ds.length ∧ Q (.d (.tuple ds)) M1)
def tLst (t : TAd) : TEd := fun σ M Q => t σ M (dataQ fun ds M1 => small ds.length ∧ Q (.d (.list ds)) M1)
/-- a list that may change -/
def tLstM (t : TAd) : TEd := fun σ M Q => t σ M fun ws M1 => small ws.length ∧ ∀ p, M1 p = none → Q (.ref p) (mset M1 p (.lst ws))
theorem q_tup {es : List Expr} {t : TAd} {x1} {pos : Pos} (h : QA Y es t) : QE Y (.Tuple es x1 pos) (tTup t) := by
  refine ⟨fun s H σ M Q S hq => semE_of (pe_tup pa_sem) (h.then_ S hq fun vs H1 ws M1 e d r q => ?_)⟩
  obtain ⟨ds, rfl, hz, q0⟩ := dataQ_get q
  clear q
  have q := q0
  clear q0
  have r' := FzA.of_wv r
  exact ⟨by rw [r'.length]; exact hz, fun p n => (up_tup (S.go e d) n r' q).trans e⟩
theorem q_lst {es : List Expr} {t : TAd} {pos : Pos} (h : QA Y es t) : QE Y (.List es pos) (tLst t) := by
  refine ⟨fun s H σ M Q S hq => semE_of (pe_lst pa_sem) (h.then_ S hq fun vs H1 ws M1 e d r q => ?_)⟩
  obtain ⟨ds, rfl, hz, q0⟩ := dataQ_get q
  clear q
  have q := q0
  clear q0
  have r' := FzA.of_wv r
  exact ⟨by rw [r'.length]; exact hz, fun p n => (up_lst (S.go e d) n r' q).trans e⟩
theorem q_lstM {es : List Expr} {t : TAd} {pos : Pos} (h : QA Y es t) : QE Y (.List es pos) (tLstM t) := by
  refine ⟨fun s H σ M Q S hq => semE_of (pe_lst pa_sem) (h.then_ S hq fun vs H1 ws M1 e d r q => ?_)⟩
  obtain ⟨hz, q⟩ := q
  exact ⟨by rw [Paired.length r]; exact hz, fun p n => (up_mut (S.go e d) n r (q p (d.free n))).trans e⟩
end
end Dl
set_option Elab.async false
set_option linter.all false
set_option maxRecDepth 100000
namespace Dl
open PySem PySem.Spec PyProof.Rows L2

section
variable {Y : Dx}
/-! ### from the hand layer's rules -/
theorem op2_of {f : Value → Value → Sem Value} {r0 : R2} {r : R2d} (h : OpR Y.X f r0) (k : ∀ s H σ M x y a b Q, Std Y s H σ M → Wv Y.X.K H M x a → Wv Y.X.K H M y b → r a b M Q → r0 x y H (up Y H M Q)) : Op2 Y f r :=
  fun s H σ M x y a b Q S rx ry q => semO_of h (k s H σ M x y a b Q S rx ry q)
theorem opC_of {f : Value} {r0 : List V → Hp → VK → Prop} {r : RCd} (h : CallR Y.X f r0) (k : ∀ s H σ M xs ws Q, Std Y s H σ M → WvA Y.X.K H M xs ws → r ws M Q → r0 xs H (up Y H M Q)) : OpC Y f r :=
  fun s H σ M xs ws Q S rx q => semC_of h (k s H σ M xs ws Q S rx q)

/-! ### whole numbers -/
def rInt (C : Int → Int → Prop) (f : Int → Int → PyData) : R2d := fun a b M Q => match a, b with
  | .d (.int i), .d (.int j) => C i j ∧ Q (.d (f i j)) M
  | _, _ => False
def rInt0 (f : Int → Int → PyData) : R2d := fun a b M Q => match a, b with
  | .d (.int i), .d (.int j) => Q (.d (f i j)) M
  | _, _ => False
theorem rInt_get {C : Int → Int → Prop} {f : Int → Int → PyData} {a b : W} {M : MH} {Q : W → MH → Prop} (h : rInt C f a b M Q) : ∃ i j, a = .d (.int i) ∧ b = .d (.int j) ∧ C i j ∧ Q (.d (f i j)) M := by
  unfold rInt at h
  split at h
  · exact ⟨_, _, rfl, rfl, h⟩
  · exact h.elim
theorem rInt0_get {f : Int → Int → PyData} {a b : W} {M : MH} {Q : W → MH → Prop} (h : rInt0 f a b M Q) : ∃ i j, a = .d (.int i) ∧ b = .d (.int j) ∧ Q (.d (f i j)) M := by
  unfold rInt0 at h
  split at h
  · exact ⟨_, _, rfl, rfl, h⟩
  · exact h.elim
theorem op2_int {f : Value → Value → Sem Value} {C : Int → Int → Prop} {fv : Int → Int → V} {fd : Int → Int → PyData} (h : OpR Y.X f (rI C fv)) (e : ∀ K H M i j, Fz K H M (fv i j) (fd i j)) : Op2 Y f (rInt C fd) :=
  op2_of h fun s H σ M x y a b Q S rx ry q => by
    obtain ⟨i, j, rfl, rfl, c, q⟩ := rInt_get q
    exact ⟨i, j, rx.int, ry.int, c, S.here (w := .d (fd i j)) (e _ _ _ _ _) q⟩
theorem op2_int0 {f : Value → Value → Sem Value} {fv : Int → Int → V} {fd : Int → Int → PyData} (h : OpR Y.X f (rI0 fv)) (e : ∀ K H M i j, Fz K H M (fv i j) (fd i j)) : Op2 Y f (rInt0 fd) :=
  op2_of h fun s H σ M x y a b Q S rx ry q => by
    obtain ⟨i, j, rfl, rfl, q⟩ := rInt0_get q
    exact ⟨i, j, rx.int, ry.int, S.here (w := .d (fd i j)) (e _ _ _ _ _) q⟩
theorem o_sub : Op2 Y (binaryOp .Sub) (rInt0 fun i j => .int (i - j)) := op2_int0 op_sub fun _ _ _ _ _ => Fz.int _
def mulOk (i j : Int) : Prop := i.natAbs.log2 + j.natAbs.log2 < 1000000
theorem o_mul : Op2 Y (binaryOp .Mult) (rInt mulOk fun i j => .int (i * j)) := op2_int (C := CMulW) op_mulW fun _ _ _ _ _ => Fz.int _
def divOk (_ j : Int) : Prop := j ≠ 0 ∧ j.natAbs.log2 < 9000
theorem op_fdivA {X : Cx} : OpR X (binaryOp .FloorDiv) (rI divOk fun i j => .int (i.fdiv j)) := opI fun i j _ _ _ _ _ hc q => floordiv_int hc.1 q (.inl (PyProof.noPylong_of_log2 hc.2))
theorem o_fdiv : Op2 Y (binaryOp .FloorDiv) (rInt divOk fun i j => .int (i.fdiv j)) := op2_int op_fdivA fun _ _ _ _ _ => Fz.int _
theorem o_mod : Op2 Y (binaryOp .Mod) (rInt (fun _ j => j ≠ 0) fun i j => .int (i.fmod j)) := op2_int op_modN fun _ _ _ _ _ => Fz.int _
def powOk (i j : Int) : Prop := 0 ≤ j ∧ (Builtin.Int.intBits i : Int) * j ≤ 2 ^ 27
theorem op_powA {X : Cx} : OpR X (binaryOp .Pow) (rI powOk fun i j => .int (i ^ j.toNat)) := opI fun i j _ _ _ _ _ hc q => pow_int hc.1 hc.2 q
theorem o_pow : Op2 Y (binaryOp .Pow) (rInt powOk fun i j => .int (i ^ j.toNat)) := op2_int op_powA fun _ _ _ _ _ => Fz.int _
theorem o_lt : Op2 Y (compareOp .Lt) (rInt0 fun i j => .bool (decide (i < j))) := op2_int0 op_lt fun _ _ _ _ _ => Fz.bl _
theorem o_le : Op2 Y (compareOp .LtE) (rInt0 fun i j => .bool (decide (i ≤ j))) := op2_int0 op_le fun _ _ _ _ _ => Fz.bl _
theorem o_gt : Op2 Y (compareOp .Gt) (rInt0 fun i j => .bool (decide (j < i))) := op2_int0 op_gt fun _ _ _ _ _ => Fz.bl _
theorem o_ge : Op2 Y (compareOp .GtE) (rInt0 fun i j => .bool (decide (j ≤ i))) := op2_int0 op_ge fun _ _ _ _ _ => Fz.bl _

/-! ### + -/
def rAdd : R2d := fun a b M Q => match a, b with
  | .d (.int i), .d (.int j) => Q (.d (.int (i + j))) M
  | .d (.str x), .d (.str y) => small (x.length + y.length) ∧ Q (.d (.str (x ++ y))) M
  | .d (.tuple x), .d (.tuple y) => small (x.length + y.length) ∧ Q (.d (.tuple (x ++ y))) M
  | .d (.list x), .d (.list y) => small (x.length + y.length) ∧ Q (.d (.list (x ++ y))) M
  | _, _ => False
theorem o_add : Op2 Y (binaryOp .Add) rAdd := by
  intro s H σ M x y a b Q S rx ry q
  unfold rAdd at q
  split at q
  · exact semO_of op_add ⟨_, _, rx.int, ry.int, S.here (wInt _) q⟩
  · exact semO_of op_add_str ⟨_, _, rx.str, ry.str, q.1, S.here (wStr _) q.2⟩
  · rename_i ds es
    obtain ⟨p, xs, rfl, h1, h2⟩ := rx.tup
    obtain ⟨p', ys, rfl, h3, h4⟩ := ry.tup
    obtain ⟨hz, q⟩ := q
    refine semO_of op_catA ⟨p, p', xs, ys, rfl, rfl, h1.sq, h3.sq, by rw [h2.length, h4.length]; exact hz, fun e => ?_, fun _ e => ?_, fun _ _ r n => up_tup S n (h2.append h4) q⟩
    · subst e
      cases h2
      exact S.here (w := .d (.tuple es)) (Fz.tup h3 h4) q
    · subst e
      cases h4
      rw [List.append_nil] at q
      exact S.here (w := .d (.tuple ds)) (Fz.tup h1 h2) q
  · obtain ⟨p, xs, rfl, h1, h2⟩ := rx.lst
    obtain ⟨p', ys, rfl, h3, h4⟩ := ry.lst
    obtain ⟨hz, q⟩ := q
    exact semO_of op_cat ⟨p, p', xs, ys, rfl, rfl, h1.1, h3.1, by rw [h2.length, h4.length]; exact hz, fun r n => up_lst S n (h2.append h4) q⟩
  · exact q.elim

/-! ### ==, != -/
def isTup : PyData → Bool | .tuple _ => true | _ => false
def bothS (x y : PyData) : Bool := match x, y with | .str _, .str _ => true | _, _ => false
def eqOk (x y : PyData) : Bool := bothS x y || (x.canLay0 && y.canLay0 && decide (min x.depth y.depth ≤ 64)) || (isTup x && match y with | .tuple [] => true | _ => false)
def rEqd : R2d := fun a b M Q => match a, b with
  | .d x, .d y => eqOk x y = true ∧ Q (.d (.bool (PyData.eqv x y))) M
  | _, _ => False
theorem eqv_tup_nil {xs : List PyData} : PyData.eqv (.tuple xs) (.tuple []) = xs.isEmpty := by
  cases xs <;> simp [PyData.eqv, PyData.eqvAll]
theorem eq_run {g : Gc} {i : Si} {k : Nat} (F : Fm g i k Y) {s' H M x y dx dy} {pins : List (Addr × Obj)} {sh : Shared} {v u : Value} {Q : Value → Shared → Prop} (I : Inv Y.X pins s' H sh) (rx : RelV x v) (ry : RelV y u)
    (hx : Fz Y.X.K H M x dx) (hy : Fz Y.X.K H M y dy) (ok : eqOk dx dy = true) (q : Q (.bool (PyData.eqv dx dy)) sh) : wpAny (model Y.X.prog Y.X.w) Y.X.A (compareOp .Eq v u) Q Y.X.xe sh := by
  obtain ⟨as, r1, _⟩ := Fz.reads I F.sy dx x v hx rx
  obtain ⟨bs, r2, _⟩ := Fz.reads I F.sy dy y u hy ry
  have hu := F.room.un
  unfold eqOk at ok
  rw [Bool.or_eq_true, Bool.or_eq_true] at ok
  rcases ok with (ok | ok) | ok
  · cases dx with
    | str a => cases dy with
      | str b =>
        cases r1
        cases r2
        exact PyProof.Rows.eq_str q
      | _ => cases ok
    | _ => cases ok
  · simp only [Bool.and_eq_true, decide_eq_true_eq] at ok
    exact SeqAt.compareEq_reads r1 r2 ok.1.1 ok.1.2 (by omega) q
  · rw [Bool.and_eq_true] at ok
    cases dx with
    | tuple xs =>
      cases dy with
      | tuple ys =>
        cases ys with
        | cons _ _ => exact absurd ok.2 (by simp)
        | nil =>
          rw [eqv_tup_nil] at q
          cases r1 with
          | @tuple _ o1 vs1 n1 _ _ h1 h2 h3 h4 =>
            cases r2 with
            | @tuple _ o2 vs2 n2 _ _ k1 k2 k3 k4 =>
              cases hv : vs2.toList with
              | cons _ _ => rw [hv] at k4; cases k4
              | nil =>
                have hs : vs2.size = 0 := by rw [← Array.length_toList, hv]; rfl
                refine SeqAt.eq_tupleAt (e := fun _ => true) ⟨o1, h1, h2, n1, h3⟩ ⟨o2, k1, k2, n2, k3⟩ (by omega) (fun j _ h => absurd h (by omega)) ?_
                have hl : vs1.size = xs.length := by rw [← Array.length_toList]; exact SeqAt.ReadsAll.length _ _ _ h4
                have e : ((List.range (min vs1.size vs2.size)).all (fun _ => true) && vs1.size == vs2.size) = xs.isEmpty := by
                  rw [hs, hl]
                  cases xs <;> simp
                rw [e]
                exact q
      | _ => exact absurd ok.2 (by simp)
    | _ => exact absurd ok.1 (by simp [isTup])
theorem ne_run {g : Gc} {i : Si} {k : Nat} (F : Fm g i k Y) {s' H M x y dx dy} {pins : List (Addr × Obj)} {sh : Shared} {v u : Value} {Q : Value → Shared → Prop} (I : Inv Y.X pins s' H sh) (rx : RelV x v) (ry : RelV y u)
    (hx : Fz Y.X.K H M x dx) (hy : Fz Y.X.K H M y dy) (ok : (bothS dx dy || (dx.canLay0 && dy.canLay0 && decide (min dx.depth dy.depth ≤ 64))) = true) (q : Q (.bool (!PyData.eqv dx dy)) sh) : wpAny (model Y.X.prog Y.X.w) Y.X.A (compareOp .NotEq v u) Q Y.X.xe sh := by
  obtain ⟨as, r1, _⟩ := Fz.reads I F.sy dx x v hx rx
  obtain ⟨bs, r2, _⟩ := Fz.reads I F.sy dy y u hy ry
  have hu := F.room.un
  rw [Bool.or_eq_true] at ok
  rcases ok with ok | ok
  · cases dx with
    | str a => cases dy with
      | str b =>
        cases r1
        cases r2
        exact PyProof.Rows.ne_str q
      | _ => cases ok
    | _ => cases ok
  simp only [Bool.and_eq_true, decide_eq_true_eq] at ok
  exact SeqAt.compareNe_reads r1 r2 ok.1.1 ok.1.2 (by omega) q
theorem o_eq {g : Gc} {i : Si} {k : Nat} (F : Fm g i k Y) : Op2 Y (compareOp .Eq) rEqd := by
  intro s H σ M x y a b Q S rx ry q
  unfold rEqd at q
  split at q
  · intro pins sh s' v u I r1 r2
    exact eq_run F I r1 r2 rx ry q.1 ⟨.bl _, H, I, rfl, S.here (wBool _) q.2⟩
  · exact q.elim
def neOk (x y : PyData) : Bool := bothS x y || (x.canLay0 && y.canLay0 && decide (min x.depth y.depth ≤ 64))
def rNed : R2d := fun a b M Q => match a, b with
  | .d x, .d y => neOk x y = true ∧ Q (.d (.bool (!PyData.eqv x y))) M
  | _, _ => False
theorem o_ne {g : Gc} {i : Si} {k : Nat} (F : Fm g i k Y) : Op2 Y (compareOp .NotEq) rNed := by
  intro s H σ M x y a b Q S rx ry q
  unfold rNed at q
  split at q
  · intro pins sh s' v u I r1 r2
    exact ne_run F I r1 r2 rx ry q.1 ⟨.bl _, H, I, rfl, S.here (wBool _) q.2⟩
  · exact q.elim

/-! ### is, is not -/
def isNone : PyData → Bool | .none => true | _ => false
def rIs : R2d := fun a b M Q => match a, b with
  | .d (.bool x), .d (.bool y) => Q (.d (.bool (x == y))) M
  | .d x, .d .none => Q (.d (.bool (isNone x))) M
  | .ref _, .d .none => Q (.d (.bool false)) M
  | .scr _, .d .none => Q (.d (.bool false)) M
  | _, _ => False
def rIsNot : R2d := fun a b M Q => match a, b with
  | .d (.bool x), .d (.bool y) => Q (.d (.bool (!(x == y)))) M
  | .d x, .d .none => Q (.d (.bool (!isNone x))) M
  | .ref _, .d .none => Q (.d (.bool true)) M
  | .scr _, .d .none => Q (.d (.bool true)) M
  | _, _ => False
theorem non_dec {K : PySem.W.Frag} {H : Hp} {M : MH} {v : V} {x : PyData} (h : Fz K H M v x) : decide (v = .non) = isNone x := by
  cases h <;> simp [isNone]
theorem dec_beq {a b : Bool} : decide (a = b) = (a == b) := by cases a <;> cases b <;> rfl
theorem o_is : Op2 Y (compareOp .Is) rIs := by
  intro s H σ M x y a b Q S rx ry q
  unfold rIs at q
  split at q
  · exact semO_of op_isBl ⟨_, _, rx.bool, ry.bool, S.here (wBool _) (by rw [dec_beq]; exact q)⟩
  · refine semO_of op_isN ⟨ry.none, S.here (wBool _) ?_⟩
    rw [non_dec rx]; exact q
  · obtain rfl := (show x = _ from rx)
    exact semO_of op_isN ⟨ry.none, S.here (wBool _) (by simpa using q)⟩
  · obtain ⟨a, xs, rfl, _⟩ := rx
    exact semO_of op_isN ⟨ry.none, S.here (wBool _) (by simpa using q)⟩
  · exact q.elim
theorem o_isNot : Op2 Y (compareOp .IsNot) rIsNot := by
  intro s H σ M x y a b Q S rx ry q
  unfold rIsNot at q
  split at q
  · exact semO_of op_notBl ⟨_, _, rx.bool, ry.bool, S.here (wBool _) (by rw [dec_beq]; exact q)⟩
  · refine semO_of op_notN ⟨ry.none, S.here (wBool _) ?_⟩
    rw [non_dec rx]; exact q
  · obtain rfl := (show x = _ from rx)
    exact semO_of op_notN ⟨ry.none, S.here (wBool _) (by simpa using q)⟩
  · obtain ⟨a, xs, rfl, _⟩ := rx
    exact semO_of op_notN ⟨ry.none, S.here (wBool _) (by simpa using q)⟩
  · exact q.elim

/-! ### in, not in -/
def inOk (x : PyData) (xs : List PyData) : Bool := PyData.canLayAll0 xs && x.canLay0 && decide (min (PyData.depthAll xs) x.depth ≤ 64)
def inD (x : PyData) (xs : List PyData) : Bool := xs.any fun y => PyData.eqv y x
def rInD (neg : Bool) : R2d := fun a b M Q => match a, b with
  | .d (.str x), .d (.str z) => ∃ c, x = ⟨#[c]⟩ ∧ Q (.d (.bool (if neg then !decide (c ∈ z.cps.toList) else decide (c ∈ z.cps.toList)))) M
  | .d x, .d (.tuple xs) => inOk x xs = true ∧ Q (.d (.bool (if neg then !inD x xs else inD x xs))) M
  | .d x, .d (.list xs) => inOk x xs = true ∧ Q (.d (.bool (if neg then !inD x xs else inD x xs))) M
  | .d x, .ref p => ∃ ws, M p = some (.lst ws) ∧ dataQ (fun xs M => inOk x xs = true ∧ Q (.d (.bool (if neg then !inD x xs else inD x xs))) M) ws M
  | _, _ => False
theorem seq_reads {g : Gc} {i : Si} {k : Nat} (F : Fm g i k Y) {s H M} {pins : List (Addr × Obj)} {sh : Shared} (I : Inv Y.X pins s H sh) {p : Addr} {vs : List V} {xs : List PyData} (h : H p = some (.lst vs)) (ha : FzA Y.X.K H M vs xs) :
    ∃ as, Reads sh.heap (.ref p) (.list xs) as := by
  obtain ⟨its, rv, ⟨o, n, ho, hc, _, hd⟩, _⟩ := I.list (SqL.of (K := Y.X.K) h)
  obtain ⟨as, hr, _⟩ := FzA.reads I F.sy xs _ its ha rv
  exact ⟨_, .list ho hc hd hr⟩
theorem o_in {g : Gc} {i : Si} {k : Nat} (F : Fm g i k Y) : Op2 Y (compareOp .In) (rInD false) := by
  intro s H σ M x y a b Q S rx ry q
  have hu := F.room.un
  unfold rInD at q
  split at q
  · obtain ⟨c, rfl, q⟩ := q
    exact semO_of op_in_sign ⟨c, _, rx.str, ry.str, S.here (wBool _) (by simpa using q)⟩
  · intro pins sh s' v u I r1 r2
    obtain ⟨as, h1, _⟩ := Fz.reads I F.sy _ y u ry r2
    obtain ⟨bs, h2, _⟩ := Fz.reads I F.sy _ x v rx r1
    obtain ⟨ok, q⟩ := q
    simp only [inOk, Bool.and_eq_true, decide_eq_true_eq] at ok
    exact SeqAt.in_tuple_reads h1 h2 ok.1.1 ok.1.2 (by omega) ⟨.bl _, H, I, rfl, S.here (w := .d (.bool _)) (wBool _) (by first | exact q | (simp only [if_true, if_false, Bool.false_eq_true] at q; exact q))⟩
  · intro pins sh s' v u I r1 r2
    obtain ⟨as, h1, _⟩ := Fz.reads I F.sy _ y u ry r2
    obtain ⟨bs, h2, _⟩ := Fz.reads I F.sy _ x v rx r1
    obtain ⟨ok, q⟩ := q
    simp only [inOk, Bool.and_eq_true, decide_eq_true_eq] at ok
    exact SeqAt.in_list_reads h1 h2 ok.1.1 ok.1.2 (by omega) ⟨.bl _, H, I, rfl, S.here (w := .d (.bool _)) (wBool _) (by first | exact q | (simp only [if_true, if_false, Bool.false_eq_true] at q; exact q))⟩
  · intro pins sh s' v u I r1 r2
    obtain ⟨ws, hm, q⟩ := q
    obtain ⟨xs, rfl, ok, q⟩ := dataQ_get q
    obtain rfl := (show y = _ from ry)
    cases r2
    obtain ⟨vs, e1, e2⟩ := S.d _ _ hm
    obtain ⟨as, h1⟩ := seq_reads F I e1 (FzA.of_wv e2)
    obtain ⟨bs, h2, _⟩ := Fz.reads I F.sy _ x v rx r1
    simp only [inOk, Bool.and_eq_true, decide_eq_true_eq] at ok
    exact SeqAt.in_list_reads h1 h2 ok.1.1 ok.1.2 (by omega) ⟨.bl _, H, I, rfl, S.here (w := .d (.bool _)) (wBool _) (by first | exact q | (simp only [if_true, if_false, Bool.false_eq_true] at q; exact q))⟩
  · exact q.elim
theorem o_notIn {g : Gc} {i : Si} {k : Nat} (F : Fm g i k Y) : Op2 Y (compareOp .NotIn) (rInD true) := by
  intro s H σ M x y a b Q S rx ry q
  have hu := F.room.un
  unfold rInD at q
  split at q
  · obtain ⟨c, rfl, q⟩ := q
    exact semO_of op_notIn_sign ⟨c, _, rx.str, ry.str, S.here (wBool _) (by simpa using q)⟩
  · intro pins sh s' v u I r1 r2
    obtain ⟨as, h1, _⟩ := Fz.reads I F.sy _ y u ry r2
    obtain ⟨bs, h2, _⟩ := Fz.reads I F.sy _ x v rx r1
    obtain ⟨ok, q⟩ := q
    simp only [inOk, Bool.and_eq_true, decide_eq_true_eq] at ok
    exact SeqAt.notIn_tuple_reads h1 h2 ok.1.1 ok.1.2 (by omega) ⟨.bl _, H, I, rfl, S.here (w := .d (.bool _)) (wBool _) (by first | exact q | (simp only [if_true, if_false, Bool.false_eq_true] at q; exact q))⟩
  · intro pins sh s' v u I r1 r2
    obtain ⟨as, h1, _⟩ := Fz.reads I F.sy _ y u ry r2
    obtain ⟨bs, h2, _⟩ := Fz.reads I F.sy _ x v rx r1
    obtain ⟨ok, q⟩ := q
    simp only [inOk, Bool.and_eq_true, decide_eq_true_eq] at ok
    exact SeqAt.notIn_list_reads h1 h2 ok.1.1 ok.1.2 (by omega) ⟨.bl _, H, I, rfl, S.here (w := .d (.bool _)) (wBool _) (by first | exact q | (simp only [if_true, if_false, Bool.false_eq_true] at q; exact q))⟩
  · intro pins sh s' v u I r1 r2
    obtain ⟨ws, hm, q⟩ := q
    obtain ⟨xs, rfl, ok, q⟩ := dataQ_get q
    obtain rfl := (show y = _ from ry)
    cases r2
    obtain ⟨vs, e1, e2⟩ := S.d _ _ hm
    obtain ⟨as, h1⟩ := seq_reads F I e1 (FzA.of_wv e2)
    obtain ⟨bs, h2, _⟩ := Fz.reads I F.sy _ x v rx r1
    simp only [inOk, Bool.and_eq_true, decide_eq_true_eq] at ok
    exact SeqAt.notIn_list_reads h1 h2 ok.1.1 ok.1.2 (by omega) ⟨.bl _, H, I, rfl, S.here (w := .d (.bool _)) (wBool _) (by first | exact q | (simp only [if_true, if_false, Bool.false_eq_true] at q; exact q))⟩
  · exact q.elim
end
end Dl
set_option Elab.async false
set_option linter.all false
set_option maxRecDepth 100000
namespace Dl
open PySem PySem.Spec PyProof.Rows L2

section
variable {g : Gc} {i : Si} {k : Nat} {Y : Dx}
/-! ### calls of built-ins -/
def tCal (r : RCd) (t : TAd) : TEd := fun σ M Q => t σ M fun ws M1 => r ws M1 Q
theorem call_run {f : Value} {r : RCd} {es : List Expr} {t : TAd} (hc : OpC Y f r) (ha : QA Y es t) {s H σ M Q} (S : Std Y s H σ M) (h : tCal r t σ M Q) : tCB (semC Y.X f) (semA Y.X es) s H (up Y H M Q) :=
  ha.then_ S h fun _ _ _ _ e d rv q => semC_mono (hc _ _ _ _ _ _ _ (S.go e d) rv q) fun _ _ z => z.trans e
theorem q_callB (F : Fm g i k Y) (j : Nat) {x : Str} {id : String} {r : RCd} {e : Expr} {es : List Expr} {t : TAd} {p pos : Pos} (hc : OpC Y (.builtin id) r) (hm : g.mg x = none) (hv : bootBuiltins x = some (.builtin id)) (ha : QA Y (e :: es) t) (hj : i.gls[j]? = some x := by rfl)
    (he : starEach (e :: es) Y.X.env = (false, eval e Y.X.env) :: starEach es Y.X.env := by rfl) (hpl : (backTo pos (starEach es Y.X.env)).any (·.1) = false := by rfl) : QE Y (.Call (.Name x p) (e :: es) [] pos) (tCal r t) := by
  obtain ⟨h1, h2, h3⟩ := F.glo j x hj
  exact ⟨fun s H σ M Q S h => semE_of (pe_callB call_sem h1 (by rw [F.hmg]; exact hm) hv pa_sem h3 h2 he hpl) (call_run hc ha S h)⟩
theorem q_callT (F : Fm g i k Y) (j : Nat) {x : Str} {T : String} {r : RCd} {e : Expr} {es : List Expr} {t : TAd} {p pos : Pos} (hc : OpC Y (.type T) r) (hm : g.mg x = none) (hv : bootBuiltins x = some (.type T)) (ha : QA Y (e :: es) t) (hj : i.gls[j]? = some x := by rfl)
    (he : starEach (e :: es) Y.X.env = (false, eval e Y.X.env) :: starEach es Y.X.env := by rfl) (hpl : (backTo pos (starEach es Y.X.env)).any (·.1) = false := by rfl) : QE Y (.Call (.Name x p) (e :: es) [] pos) (tCal r t) := by
  obtain ⟨h1, h2, h3⟩ := F.glo j x hj
  exact ⟨fun s H σ M Q S h => semE_of (pe_callTy call_sem h1 (by rw [F.hmg]; exact hm) hv pa_sem h3 h2 he hpl) (call_run hc ha S h)⟩
section
variable {K : PySem.W.Frag} {H : Hp} {M : MH}
theorem WvA.one {xs : List V} {w : W} (h : WvA K H M xs [w]) : ∃ v, xs = [v] ∧ Wv K H M v w := by
  cases h with
  | cons a b => cases b; exact ⟨_, rfl, a⟩
theorem WvA.two {xs : List V} {w u : W} (h : WvA K H M xs [w, u]) : ∃ v y, xs = [v, y] ∧ Wv K H M v w ∧ Wv K H M y u := by
  cases h with
  | cons a b =>
    cases b with
    | cons b c => cases c; exact ⟨_, _, rfl, a, b⟩
end
def rLen : RCd := fun ws M Q => match ws with
  | [.d (.str z)] => small z.length ∧ Q (.d (.int z.length)) M
  | [.d (.tuple xs)] => Q (.d (.int xs.length)) M
  | [.d (.list xs)] => Q (.d (.int xs.length)) M
  | [.scr xs] => Q (.d (.int xs.length)) M
  | [.ref p] => ∃ ws, M p = some (.lst ws) ∧ Q (.d (.int ws.length)) M
  | _ => False
theorem c_len : OpC Y (.builtin "len") rLen := by
  intro s H σ M xs ws Q S rx q
  unfold rLen at q
  split at q
  · obtain ⟨v, rfl, r⟩ := rx.one
    exact semC_of call_len_str ⟨_, by rw [r.str], q.1, S.here (wInt _) q.2⟩
  · obtain ⟨v, rfl, r⟩ := rx.one
    obtain ⟨p, ys, rfl, h1, h2⟩ := r.tup
    exact semC_of call_len_seq ⟨p, ys, rfl, .inr h1.sq, S.here (wInt _) (by rw [h2.length]; exact q)⟩
  · obtain ⟨v, rfl, r⟩ := rx.one
    obtain ⟨p, ys, rfl, h1, h2⟩ := r.lst
    exact semC_of call_len_seq ⟨p, ys, rfl, .inl h1.sq, S.here (wInt _) (by rw [h2.length]; exact q)⟩
  · obtain ⟨v, rfl, r⟩ := rx.one
    obtain ⟨p, ys, rfl, h1, h2⟩ := r
    exact semC_of call_len_seq ⟨p, ys, rfl, .inl h1.sq, S.here (wInt _) (by rw [h2.length]; exact q)⟩
  · obtain ⟨v, rfl, r⟩ := rx.one
    obtain ⟨ws', hm, q⟩ := q
    obtain rfl := (show v = _ from r)
    obtain ⟨ys, h1, h2⟩ := S.d _ _ hm
    exact semC_of call_len_seq ⟨_, ys, rfl, .inl (SqL.of h1), S.here (wInt _) (by rw [Paired.length h2]; exact q)⟩
  · exact q.elim
def rAbs : RCd := fun ws M Q => match ws with
  | [.d (.int n)] => Q (.d (.int (n.natAbs : Int))) M
  | _ => False
theorem c_abs : OpC Y (.builtin "abs") rAbs := by
  intro s H σ M xs ws Q S rx q
  unfold rAbs at q
  split at q
  · obtain ⟨v, rfl, r⟩ := rx.one
    rename_i n
    refine semC_of call_abs ⟨n, by rw [r.int], S.here (wInt _) ?_⟩
    rw [show (if n < 0 then -n else n) = (n.natAbs : Int) by split <;> omega]
    exact q
  · exact q.elim
def rMax : RCd := fun ws M Q => match ws with
  | [.d (.int n), .d (.int m)] => Q (.d (.int (max n m))) M
  | _ => False
def rMin : RCd := fun ws M Q => match ws with
  | [.d (.int n), .d (.int m)] => Q (.d (.int (min n m))) M
  | _ => False
theorem c_max (F : Fm g i k Y) : OpC Y (.builtin "max") rMax := by
  intro s H σ M xs ws Q S rx q
  unfold rMax at q
  split at q
  · obtain ⟨v, u, rfl, r1, r2⟩ := rx.two
    rename_i n m
    refine semC_of (call_max2 F.calm) ⟨n, m, by rw [r1.int, r2.int], S.here (wInt _) ?_⟩
    rw [show (if m > n then m else n) = max n m by split <;> omega]
    exact q
  · exact q.elim
theorem c_min (F : Fm g i k Y) : OpC Y (.builtin "min") rMin := by
  intro s H σ M xs ws Q S rx q
  unfold rMin at q
  split at q
  · obtain ⟨v, u, rfl, r1, r2⟩ := rx.two
    rename_i n m
    refine semC_of (call_min2 F.calm) ⟨n, m, by rw [r1.int, r2.int], S.here (wInt _) ?_⟩
    rw [show (if m < n then m else n) = min n m by split <;> omega]
    exact q
  · exact q.elim
def rToInt : RCd := fun ws M Q => match ws with
  | [.d (.int n)] => Q (.d (.int n)) M
  | [.d (.bool b)] => Q (.d (.int (if b then 1 else 0))) M
  | _ => False
theorem c_int : OpC Y (.type "int") rToInt := by
  intro s H σ M xs ws Q S rx q
  unfold rToInt at q
  split at q
  · obtain ⟨v, rfl, r⟩ := rx.one
    exact semC_of call_int1 (.inl ⟨_, by rw [r.int], S.here (wInt _) q⟩)
  · obtain ⟨v, rfl, r⟩ := rx.one
    exact semC_of call_int1 (.inr ⟨_, by rw [r.bool], S.here (wInt _) q⟩)
  · exact q.elim
def rStrI : RCd := fun ws M Q => match ws with
  | [.d (.int n)] => n.natAbs.log2 < 1920 ∧ Q (.d (.str (toString n))) M
  | _ => False
theorem c_str : OpC Y (.type "str") rStrI := by
  intro s H σ M xs ws Q S rx q
  unfold rStrI at q
  split at q
  · obtain ⟨v, rfl, r⟩ := rx.one
    exact semC_of call_str_int ⟨_, by rw [r.int], q.1, S.here (wStr _) q.2⟩
  · exact q.elim
def showOk (x : PyData) : Prop := x.showable = true ∧ x.shown.length ≤ sizeLine ∧ x.depth ≤ 100
def rRepr : RCd := fun ws M Q => match ws with
  | [.d x] => showOk x ∧ Q (.d (.str x.shown)) M
  | _ => False
theorem c_repr (F : Fm g i k Y) : OpC Y (.builtin "repr") rRepr := by
  intro s H σ M xs ws Q S rx q
  have hu := F.room.un
  unfold rRepr at q
  split at q
  · rename_i x
    obtain ⟨v, rfl, r⟩ := rx.one
    obtain ⟨⟨h1, h2, h3⟩, q⟩ := q
    intro pins sh s' us I ru
    obtain ⟨u, rfl, ru1⟩ := vals1 ru
    clear ru
    have r' : Fz Y.X.K H M v x := r
    obtain ⟨as, rd, hs⟩ := Fz.reads I F.sy x v u r' ru1
    have fin : ∀ h' tk, (∀ b o, sh.heap.get? b = some o → h'.get? b = some o) → ∀ t, EP Y.X pins s' (up Y H M Q) (.str x.shown t) { sh with heap := h', toks := tk } := fun h' tk hk t =>
      ⟨.str x.shown, H, I.kept hk, ⟨t, rfl⟩, S.here (wStr _) q⟩
    cases x with
    | none =>
      cases rd
      simp only [PyData.shown] at fin
      exact PySem.P.repr_of_none (fin sh.heap _ (fun _ _ e => e) _)
    | bool b =>
      cases rd
      simp only [PyData.shown] at fin
      exact PySem.P.repr_of_bool (fin sh.heap _ (fun _ _ e => e) _)
    | int n =>
      cases rd
      simp only [PyData.shown] at fin
      exact PySem.P.repr_of_int (by simpa [PyData.showable] using h1) (fin sh.heap _ (fun _ _ e => e) _)
    | str z =>
      cases rd
      simp only [PyData.shown] at fin h2
      exact PySem.P.repr_of_str (fin sh.heap _ (fun _ _ e => e) _) h2
    | list ds =>
      cases r'
      cases ru1
      exact repr_of_reads' rd h1 (fun _ => hs) F.gd (by omega) (fun _ _ e => e) (fun h' t tk hk => fin h' tk hk t) h2
    | tuple ds =>
      cases r'
      cases ru1
      exact repr_of_reads' rd h1 (fun _ => hs) F.gd (by omega) (fun _ _ e => e) (fun h' t tk hk => fin h' tk hk t) h2
    | dict ds =>
      cases r' <;> cases ru1 <;> exact repr_of_reads' rd h1 (fun _ => hs) F.gd (by omega) (fun _ _ e => e) (fun h' t tk hk => fin h' tk hk t) h2
  · exact q.elim
/-- tuple(x) -/
def rTup : RCd := fun ws M Q => match ws with
  | [.d (.tuple xs)] => Q (.d (.tuple xs)) M
  | [.d (.list xs)] => Q (.d (.tuple xs)) M
  | [.ref p] => ∃ ws, M p = some (.lst ws) ∧ dataQ (fun xs M => Q (.d (.tuple xs)) M) ws M
  | _ => False
theorem c_tup : OpC Y (.type "tuple") rTup := by
  intro s H σ M xs ws Q S rx q
  unfold rTup at q
  split at q
  · obtain ⟨v, rfl, r⟩ := rx.one
    obtain ⟨p, ys, rfl, h1, h2⟩ := r.tup
    exact semC_of call_tuple_of ⟨p, ys, rfl, .inr ⟨h1.sq, S.here r q⟩⟩
  · obtain ⟨v, rfl, r⟩ := rx.one
    obtain ⟨p, ys, rfl, h1, h2⟩ := r.lst
    exact semC_of call_tuple_of ⟨p, ys, rfl, .inl ⟨h1.sq, fun l n => up_tup S n h2 q⟩⟩
  · obtain ⟨v, rfl, r⟩ := rx.one
    obtain ⟨ws', hm, q⟩ := q
    obtain ⟨ds, rfl, q0⟩ := dataQ_get q
    clear q
    have q := q0
    obtain rfl := (show v = _ from r)
    obtain ⟨ys, h1, h2⟩ := S.d _ _ hm
    exact semC_of call_tuple_of ⟨_, ys, rfl, .inl ⟨SqL.of h1, fun l n => up_tup S n (FzA.of_wv h2) q⟩⟩
  · exact q.elim
/-- list(x) -/
def rLst : RCd := fun ws M Q => match ws with
  | [.d (.tuple xs)] => Q (.d (.list xs)) M
  | [.d (.list xs)] => Q (.d (.list xs)) M
  | [.ref p] => ∃ ws, M p = some (.lst ws) ∧ dataQ (fun xs M => Q (.d (.list xs)) M) ws M
  | _ => False
theorem c_lst : OpC Y (.type "list") rLst := by
  intro s H σ M xs ws Q S rx q
  unfold rLst at q
  split at q
  · obtain ⟨v, rfl, r⟩ := rx.one
    obtain ⟨p, ys, rfl, h1, h2⟩ := r.tup
    exact semC_of call_list_of ⟨p, ys, rfl, .inr h1.sq, fun l n => up_lst S n h2 q⟩
  · obtain ⟨v, rfl, r⟩ := rx.one
    obtain ⟨p, ys, rfl, h1, h2⟩ := r.lst
    exact semC_of call_list_of ⟨p, ys, rfl, .inl h1.sq, fun l n => up_lst S n h2 q⟩
  · obtain ⟨v, rfl, r⟩ := rx.one
    obtain ⟨ws', hm, q⟩ := q
    obtain ⟨ds, rfl, q0⟩ := dataQ_get q
    clear q
    have q := q0
    obtain rfl := (show v = _ from r)
    obtain ⟨ys, h1, h2⟩ := S.d _ _ hm
    exact semC_of call_list_of ⟨_, ys, rfl, .inl (SqL.of h1), fun l n => up_lst S n (FzA.of_wv h2) q⟩
  · exact q.elim
/-- all(list of truths), any -/
def bools : List PyData → Option (List Bool)
  | [] => some []
  | .bool b :: r => (bools r).map (b :: ·)
  | _ => none
theorem bools_eq : ∀ {ds : List PyData} {bs : List Bool}, bools ds = some bs → ds = bs.map PyData.bool
  | [], _, h => by cases h; rfl
  | d :: r, bs, h => by
    cases d <;> try (simp [bools] at h; done)
    rename_i b
    unfold bools at h
    cases e : bools r with
    | none => rw [e] at h; cases h
    | some es =>
      rw [e] at h
      cases h
      rw [bools_eq e]
      rfl
theorem bools_map : ∀ bs : List Bool, bools (bs.map PyData.bool) = some bs
  | [] => rfl
  | b :: bs => by show (bools (bs.map PyData.bool)).map (b :: ·) = _; rw [bools_map bs]; rfl
theorem FzA.bls {K : PySem.W.Frag} {H : Hp} {M : MH} : ∀ {bs : List Bool} {xs : List V}, FzA K H M xs (bs.map PyData.bool) → xs = bs.map V.bl
  | [], _, h => by cases h; rfl
  | b :: bs, _, h => by
    cases h with
    | cons h1 h2 => cases h1; rw [FzA.bls h2]; rfl
def rAll : RCd := fun ws M Q => match ws with
  | [.d (.list xs)] => match bools xs with | some bs => Q (.d (.bool (bs.all id))) M | none => False
  | _ => False
def rAny : RCd := fun ws M Q => match ws with
  | [.d (.list xs)] => match bools xs with | some bs => Q (.d (.bool (bs.any id))) M | none => False
  | _ => False
theorem c_all (F : Fm g i k Y) : OpC Y (.builtin "all") rAll := by
  intro s H σ M xs ws Q S rx q
  unfold rAll at q
  split at q
  · split at q
    · rename_i bs e
      obtain rfl := bools_eq e
      obtain ⟨v, rfl, r⟩ := rx.one
      obtain ⟨p, ys, rfl, h1, h2⟩ := r.lst
      obtain rfl := h2.bls
      exact semC_of (cr_all F.calm) ⟨p, bs, rfl, h1.sq, S.here (wBool _) q⟩
    · exact q.elim
  · exact q.elim
theorem c_any (F : Fm g i k Y) : OpC Y (.builtin "any") rAny := by
  intro s H σ M xs ws Q S rx q
  unfold rAny at q
  split at q
  · split at q
    · rename_i bs e
      obtain rfl := bools_eq e
      obtain ⟨v, rfl, r⟩ := rx.one
      obtain ⟨p, ys, rfl, h1, h2⟩ := r.lst
      obtain rfl := h2.bls
      exact semC_of (cr_any F.calm) ⟨p, bs, rfl, h1.sq, S.here (wBool _) q⟩
    · exact q.elim
  · exact q.elim
def intsD : List PyData → Option (List Int)
  | [] => some []
  | .int b :: r => (intsD r).map (b :: ·)
  | _ => none
theorem intsD_eq : ∀ {ds : List PyData} {bs : List Int}, intsD ds = some bs → ds = bs.map PyData.int
  | [], _, h => by cases h; rfl
  | d :: r, bs, h => by
    cases d <;> try (simp [intsD] at h; done)
    rename_i b
    unfold intsD at h
    cases e : intsD r with
    | none => rw [e] at h; cases h
    | some es =>
      rw [e] at h
      cases h
      rw [intsD_eq e]
      rfl
theorem intsD_map : ∀ bs : List Int, intsD (bs.map PyData.int) = some bs
  | [] => rfl
  | b :: bs => by show (intsD (bs.map PyData.int)).map (b :: ·) = _; rw [intsD_map bs]; rfl
theorem FzA.intsV {K : PySem.W.Frag} {H : Hp} {M : MH} : ∀ {bs : List Int} {xs : List V}, FzA K H M xs (bs.map PyData.int) → xs = bs.map V.int
  | [], _, h => by cases h; rfl
  | b :: bs, _, h => by
    cases h with
    | cons h1 h2 => cases h1; rw [FzA.intsV h2]; rfl
def rSum : RCd := fun ws M Q => match ws with
  | [.d (.list xs)] => match intsD xs with | some ns => Q (.d (.int ns.sum)) M | none => False
  | _ => False
theorem c_sum (F : Fm g i k Y) : OpC Y (.builtin "sum") rSum := by
  intro s H σ M xs ws Q S rx q
  unfold rSum at q
  split at q
  · split at q
    · rename_i bs e
      obtain rfl := intsD_eq e
      obtain ⟨v, rfl, r⟩ := rx.one
      obtain ⟨p, ys, rfl, h1, h2⟩ := r.lst
      obtain rfl := h2.intsV
      exact semC_of (cr_sum F.calm) ⟨p, bs, rfl, h1.sq, S.here (wInt _) q⟩
    · exact q.elim
  · exact q.elim

/-! ### isinstance of a built-in class -/
def tyOf : PyData → String
  | .none => "NoneType" | .bool _ => "bool" | .int _ => "int" | .str _ => "str" | .list _ => "list" | .tuple _ => "tuple" | .dict _ => "dict"
def isInt : PyData → Bool | .int _ => true | .bool _ => true | _ => false
def isBool : PyData → Bool | .bool _ => true | _ => false
def isStr : PyData → Bool | .str _ => true | _ => false
def isList : PyData → Bool | .list _ => true | _ => false
def isDict : PyData → Bool | .dict _ => true | _ => false
def IsK (T : String) (f : PyData → Bool) : Prop := ∀ x, kitB (tyOf x) T = some (f x)
theorem kb_NoneType_int : kitB "NoneType" "int" = some false := by decide +kernel
theorem kb_bool_int : kitB "bool" "int" = some true := by decide +kernel
theorem kb_int_int : kitB "int" "int" = some true := by decide +kernel
theorem kb_str_int : kitB "str" "int" = some false := by decide +kernel
theorem kb_list_int : kitB "list" "int" = some false := by decide +kernel
theorem kb_tuple_int : kitB "tuple" "int" = some false := by decide +kernel
theorem kb_dict_int : kitB "dict" "int" = some false := by decide +kernel
theorem isk_int : IsK "int" isInt := fun x => match x with | .none => kb_NoneType_int | .bool _ => kb_bool_int | .int _ => kb_int_int | .str _ => kb_str_int | .list _ => kb_list_int | .tuple _ => kb_tuple_int | .dict _ => kb_dict_int
theorem kb_NoneType_bool : kitB "NoneType" "bool" = some false := by decide +kernel
theorem kb_bool_bool : kitB "bool" "bool" = some true := by decide +kernel
theorem kb_int_bool : kitB "int" "bool" = some false := by decide +kernel
theorem kb_str_bool : kitB "str" "bool" = some false := by decide +kernel
theorem kb_list_bool : kitB "list" "bool" = some false := by decide +kernel
theorem kb_tuple_bool : kitB "tuple" "bool" = some false := by decide +kernel
theorem kb_dict_bool : kitB "dict" "bool" = some false := by decide +kernel
theorem isk_bool : IsK "bool" isBool := fun x => match x with | .none => kb_NoneType_bool | .bool _ => kb_bool_bool | .int _ => kb_int_bool | .str _ => kb_str_bool | .list _ => kb_list_bool | .tuple _ => kb_tuple_bool | .dict _ => kb_dict_bool
theorem kb_NoneType_str : kitB "NoneType" "str" = some false := by decide +kernel
theorem kb_bool_str : kitB "bool" "str" = some false := by decide +kernel
theorem kb_int_str : kitB "int" "str" = some false := by decide +kernel
theorem kb_str_str : kitB "str" "str" = some true := by decide +kernel
theorem kb_list_str : kitB "list" "str" = some false := by decide +kernel
theorem kb_tuple_str : kitB "tuple" "str" = some false := by decide +kernel
theorem kb_dict_str : kitB "dict" "str" = some false := by decide +kernel
theorem isk_str : IsK "str" isStr := fun x => match x with | .none => kb_NoneType_str | .bool _ => kb_bool_str | .int _ => kb_int_str | .str _ => kb_str_str | .list _ => kb_list_str | .tuple _ => kb_tuple_str | .dict _ => kb_dict_str
theorem kb_NoneType_tuple : kitB "NoneType" "tuple" = some false := by decide +kernel
theorem kb_bool_tuple : kitB "bool" "tuple" = some false := by decide +kernel
theorem kb_int_tuple : kitB "int" "tuple" = some false := by decide +kernel
theorem kb_str_tuple : kitB "str" "tuple" = some false := by decide +kernel
theorem kb_list_tuple : kitB "list" "tuple" = some false := by decide +kernel
theorem kb_tuple_tuple : kitB "tuple" "tuple" = some true := by decide +kernel
theorem kb_dict_tuple : kitB "dict" "tuple" = some false := by decide +kernel
theorem isk_tuple : IsK "tuple" isTup := fun x => match x with | .none => kb_NoneType_tuple | .bool _ => kb_bool_tuple | .int _ => kb_int_tuple | .str _ => kb_str_tuple | .list _ => kb_list_tuple | .tuple _ => kb_tuple_tuple | .dict _ => kb_dict_tuple
theorem kb_NoneType_list : kitB "NoneType" "list" = some false := by decide +kernel
theorem kb_bool_list : kitB "bool" "list" = some false := by decide +kernel
theorem kb_int_list : kitB "int" "list" = some false := by decide +kernel
theorem kb_str_list : kitB "str" "list" = some false := by decide +kernel
theorem kb_list_list : kitB "list" "list" = some true := by decide +kernel
theorem kb_tuple_list : kitB "tuple" "list" = some false := by decide +kernel
theorem kb_dict_list : kitB "dict" "list" = some false := by decide +kernel
theorem isk_list : IsK "list" isList := fun x => match x with | .none => kb_NoneType_list | .bool _ => kb_bool_list | .int _ => kb_int_list | .str _ => kb_str_list | .list _ => kb_list_list | .tuple _ => kb_tuple_list | .dict _ => kb_dict_list
theorem kb_NoneType_dict : kitB "NoneType" "dict" = some false := by decide +kernel
theorem kb_bool_dict : kitB "bool" "dict" = some false := by decide +kernel
theorem kb_int_dict : kitB "int" "dict" = some false := by decide +kernel
theorem kb_str_dict : kitB "str" "dict" = some false := by decide +kernel
theorem kb_list_dict : kitB "list" "dict" = some false := by decide +kernel
theorem kb_tuple_dict : kitB "tuple" "dict" = some false := by decide +kernel
theorem kb_dict_dict : kitB "dict" "dict" = some true := by decide +kernel
theorem isk_dict : IsK "dict" isDict := fun x => match x with | .none => kb_NoneType_dict | .bool _ => kb_bool_dict | .int _ => kb_int_dict | .str _ => kb_str_dict | .list _ => kb_list_dict | .tuple _ => kb_tuple_dict | .dict _ => kb_dict_dict
theorem Fz.tyX {K : PySem.W.Frag} {H : Hp} {M : MH} {v : V} {x : PyData} (h : Fz K H M v x) : TyX K H v (.type (tyOf x)) := by
  cases h with
  | non => exact .base .non
  | bl b => exact .base (.bl b)
  | int n => exact .base (.int n)
  | str z => exact .base (.str z)
  | lst h1 h2 => exact .base (.lst h1.1)
  | tup h1 h2 =>
    rcases h1 with ⟨h | ⟨o, h⟩, _⟩ | h
    · exact .base (.tup h)
    · exact .fTuple h
    · rcases h with h | ⟨o, its, n, hk, hc, _⟩
      · exact (no_rd h).elim
      · exact .kTuple hk hc
  | dK h1 h2 h3 => exact .base (.dK h1)
  | dT h1 h2 h3 => exact .base (.dT h1)
def tIsi (f : PyData → Bool) (t : TEd) : TEd := fun σ M Q => t σ M fun w M1 => match w with
  | .d x => Q (.d (.bool (f x))) M1
  | .ref p => ∃ ws, M1 p = some (.lst ws) ∧ Q (.d (.bool (f (.list [])))) M1
  | .scr _ => False
theorem q_isi (F : Fm g i k Y) (j jt : Nat) {T : Str} {n : String} {f : PyData → Bool} {e : Expr} {t : TEd} {p p2 pos : Pos} (hf : IsK n f) (hm : g.mg "isinstance" = none) (hmT : g.mg T = none) (hvT : bootBuiltins T = some (.type n)) (he : QE Y e t)
    (hj : i.gls[j]? = some "isinstance" := by rfl) (hjt : i.gls[jt]? = some T := by rfl)
    (hse : starEach [e, .Name T p2] Y.X.env = (false, eval e Y.X.env) :: starEach [.Name T p2] Y.X.env := by rfl) (hpl : (backTo pos (starEach [.Name T p2] Y.X.env)).any (·.1) = false := by rfl) : QE Y (.Call (.Name "isinstance" p) [e, .Name T p2] [] pos) (tIsi f t) := by
  obtain ⟨h1, h2, h3⟩ := F.glo j _ hj
  obtain ⟨k1, k2, k3⟩ := F.glo jt _ hjt
  refine ⟨fun s H σ M Q S h => ?_⟩
  refine semE_of (pe_callB call_isi h1 (by rw [F.hmg]; exact hm) boot_isinstance (pa_cons (pe_sem (e := e)) (pa_cons (pe_bltn (v := .ty n) (u := .type n) k1 (by rw [F.hmg]; exact hmT) hvT rfl k3 k2) pa_nil) hse) h3 h2 hse hpl) (he.then_ S h fun v H1 w M1 e d r q => ?_)
  cases w with
  | d x => exact ⟨v, .ty n, .type (tyOf x), .type n, f x, rfl, .ty n, Fz.tyX r, kit_ty (hf x), ((S.go e d).here (wBool _) q).trans e⟩
  | ref p =>
    obtain ⟨ws, hm, q⟩ := q
    obtain rfl := (show v = _ from r)
    obtain ⟨ys, hy, _⟩ := d _ _ hm
    exact ⟨.ref p, .ty n, .type "list", .type n, f (.list []), rfl, .ty n, .base (.lst hy), kit_ty (hf (.list [])), ((S.go e d).here (wBool _) q).trans e⟩
  | scr xs => exact q.elim
end
end Dl
set_option Elab.async false
set_option linter.all false
set_option maxRecDepth 100000
namespace Dl
open PySem PySem.Spec PyProof.Rows L2

section
variable {g : Gc} {i : Si} {k : Nat} {Y : Dx}
/-! ### an item, a slice -/
def rIxd : R2d := fun a b M Q => match a, b with
  | .d (.tuple ds), .d (.int n) => ∃ d, atI ds n = some d ∧ Q (.d d) M
  | .d (.list ds), .d (.int n) => ∃ d, atI ds n = some d ∧ Q (.d d) M
  | .scr ds, .d (.int n) => ∃ d, atI ds n = some d ∧ Q (.d d) M
  | .d (.str z), .d (.int n) => small z.length ∧ ∃ c, atI z.cps.toList n = some c ∧ Q (.d (.str ⟨#[c]⟩)) M
  | .ref p, .d (.int n) => ∃ ws, M p = some (.lst ws) ∧ ∃ w, atI ws n = some w ∧ Q w M
  | _, _ => False
theorem atI_paired {α β : Type} {R : α → β → Prop} {xs : List α} {ys : List β} (h : Paired R xs ys) {n : Int} {b : β} (e : atI ys n = some b) : ∃ a, atI xs n = some a ∧ R a b := by
  have hl : xs.length = ys.length := Paired.length h
  unfold atI at e ⊢
  rw [hl]
  cases hx : ixN ys.length n with
  | none => rw [hx] at e; cases e
  | some j =>
    rw [hx] at e
    have e' : ys[j]? = some b := e
    have : ∀ {xs : List α} {ys : List β} {j : Nat}, Paired R xs ys → ys[j]? = some b → ∃ a, xs[j]? = some a ∧ R a b := by
      intro xs ys j h
      induction h generalizing j with
      | nil => intro q; simp at q
      | cons r t ih =>
        intro q
        cases j with
        | zero => simp at q; subst q; exact ⟨_, rfl, r⟩
        | succ j => obtain ⟨a, z1, z2⟩ := ih (j := j) (by simpa using q); exact ⟨a, by simpa using z1, z2⟩
    exact this h e'
theorem FzA.at {K : PySem.W.Frag} {H : Hp} {M : MH} {xs : List V} {ds : List PyData} (h : FzA K H M xs ds) {n : Int} {d : PyData} (e : atI ds n = some d) : ∃ v, atI xs n = some v ∧ Fz K H M v d := by
  have e' : atI (ds.map W.d) n = some (.d d) := by
    unfold atI at e ⊢
    rw [List.length_map]
    cases hx : ixN ds.length n with
    | none => rw [hx] at e; cases e
    | some j =>
      rw [hx] at e
      have q : ds[j]? = some d := e
      show (ds.map W.d)[j]? = _
      rw [List.getElem?_map, q]
      rfl
  exact atI_paired h.wv e'
theorem o_ix : ∀ (s : L2.St) (H : Hp) (σ : SD) (M : MH) (x y : V) (a b : W) (Q : W → MH → Prop), Std Y s H σ M → Wv Y.X.K H M x a → Wv Y.X.K H M y b → rIxd a b M Q → rIx Y.X.K x y H (up Y H M Q) := by
  intro s H σ M x y a b Q S rx ry q
  unfold rIxd at q
  split at q
  · obtain ⟨p, xs, rfl, h1, h2⟩ := rx.tup
    obtain ⟨d, e, q⟩ := q
    obtain ⟨v, e1, e2⟩ := h2.at e
    exact .inr (.inl ⟨p, xs, _, v, rfl, ry.int, h1.sq, e1, S.here (w := .d d) e2 q⟩)
  · obtain ⟨p, xs, rfl, h1, h2⟩ := rx.lst
    obtain ⟨d, e, q⟩ := q
    obtain ⟨v, e1, e2⟩ := h2.at e
    exact .inl ⟨p, xs, _, v, rfl, ry.int, h1.sq, e1, S.here (w := .d d) e2 q⟩
  · obtain ⟨p, xs, rfl, h1, h2⟩ := rx
    obtain ⟨d, e, q⟩ := q
    obtain ⟨v, e1, e2⟩ := h2.at e
    exact .inl ⟨p, xs, _, v, rfl, ry.int, h1.sq, e1, S.here (w := .d d) e2 q⟩
  · obtain ⟨hz, c, e, q⟩ := q
    exact .inr (.inr ⟨_, _, c, rx.str, ry.int, hz, e, S.here (wStr _) q⟩)
  · obtain ⟨ws, hm, w, e, q⟩ := q
    obtain rfl := (show x = _ from rx)
    obtain ⟨xs, h1, h2⟩ := S.d _ _ hm
    obtain ⟨v, e1, e2⟩ := atI_paired h2 e
    exact .inl ⟨_, xs, _, v, rfl, ry.int, SqL.of h1, e1, S.here e2 q⟩
  · exact q.elim
theorem q_ix {a b : Expr} {ta tb : TEd} {pos : Pos} (ha : QE Y a ta) (hb : QE Y b tb) (hs : PlainIx b := by intro _ _; rfl) : QE Y (.Subscript a b pos) (tBin rIxd ta tb) :=
  ⟨fun s H σ M Q S h => semE_of (pe_ix ix_seq pe_sem pe_sem hs) (ha.then_ S h fun _ H1 _ _ e d rv q => hb.then_ (S.go e d) q fun _ _ _ _ e2 d2 rv2 q2 => by
    have z := o_ix _ _ _ _ _ _ _ _ _ ((S.go e d).go e2 d2) (rv.ext e2) rv2 q2
    rcases z with ⟨p, xs, n, v, z1, z2, z3, z4, z5⟩ | ⟨p, xs, n, v, z1, z2, z3, z4, z5⟩ | ⟨p, xs, c, z1, z2, z3, z4, z5⟩
    · exact .inl ⟨p, xs, n, v, z1, z2, z3, z4, z5.trans (e.trans e2)⟩
    · exact .inr (.inl ⟨p, xs, n, v, z1, z2, z3, z4, z5.trans (e.trans e2)⟩)
    · exact .inr (.inr ⟨p, xs, c, z1, z2, z3, z4, z5.trans (e.trans e2)⟩))⟩

/-! ### what is walked -/
def JL (K : PySem.W.Frag) (J : It) (H1 : Hp) (M1 : MH) (ws : List W) (kc : MH → Prop) : Prop := ∀ H2 M2, Ext H1 M1 H2 M2 → Dok K H2 M2 → kc M2 →
  (∀ j w, ws[j]? = some w → J.go j H2 ∧ ∀ x H3, J.yld j H2 x H3 → Ext H2 M2 H3 M2 ∧ Dok K H3 M2 ∧ Wv K H3 M2 x w) ∧ (∀ j, ws.length ≤ j → J.stop j H2)
def semIt (X : Cx) (tg iter : Expr) : TI := fun s H R => ∀ pins sh, Inv X pins s H sh → wpAny (model X.prog X.w) X.A (eval iter X.env) (fun v s1 => wpAny (model X.prog X.w) X.A (pyIter v) (PIE X pins s tg R) X.xe s1) X.xe sh
theorem pi_sem {X : Cx} {tg iter : Expr} : PI X tg iter (semIt X tg iter) := ⟨fun pins s _ _ _ I h => h pins s I⟩
theorem semIt_of {X : Cx} {tg iter : Expr} {wi : TI} (h : PI X tg iter wi) {s : L2.St} {H : Hp} {R : It → Hp → Prop} (q : wi s H R) : semIt X tg iter s H R := fun pins sh I => h.run pins sh s H R I q
abbrev TId := SD → MH → (List W → (MH → Prop) → MH → Prop) → Prop
def upI (Y : Dx) (H : Hp) (M : MH) (Q : List W → (MH → Prop) → MH → Prop) : It → Hp → Prop := fun J H1 => ∃ ws kc M1, Ext H M H1 M1 ∧ Dok Y.X.K H1 M1 ∧ JL Y.X.K J H1 M1 ws kc ∧ Q ws kc M1
structure QI (Y : Dx) (tg iter : Expr) (ti : TId) : Prop where
  run : ∀ s H σ M Q, Std Y s H σ M → ti σ M Q → semIt Y.X tg iter s H (upI Y H M Q)
def noKc : MH → Prop := fun _ => True
def iTupD (t : TEd) : TId := fun σ M Q => t σ M fun w M1 => match w with | .d (.tuple ds) => Q (ds.map W.d) noKc M1 | _ => False
def iLstD (t : TEd) : TId := fun σ M Q => t σ M fun w M1 => match w with
  | .d (.list ds) => Q (ds.map W.d) noKc M1
  | .scr ds => Q (ds.map W.d) noKc M1
  | .ref p => ∃ ws, M1 p = some (.lst ws) ∧ Q ws (fun M => M p = some (.lst ws)) M1
  | _ => False
theorem getElem?_mapd {ds : List PyData} {j : Nat} {w : W} (e : (ds.map W.d)[j]? = some w) : ∃ d, w = .d d ∧ ds[j]? = some d := by
  rw [List.getElem?_map] at e
  cases h : ds[j]? with
  | none => rw [h] at e; cases e
  | some d => rw [h] at e; cases e; exact ⟨d, rfl, rfl⟩
theorem jl_list {K : PySem.W.Frag} {H1 : Hp} {M1 : MH} {a : Addr} {ws : List W} {kc : MH → Prop} (h : ∀ H2 M2, Ext H1 M1 H2 M2 → Dok K H2 M2 → kc M2 → ∃ xs, (∀ ys, SqL K H2 a ys → ys.length = xs.length → True) ∧ SqL K H2 a xs ∧ WvA K H2 M2 xs ws) : JL K (Itl K a) H1 M1 ws kc := by
  intro H2 M2 e d c
  obtain ⟨xs, _, hs, hw⟩ := h H2 M2 e d c
  have hl : xs.length = ws.length := Paired.length hw
  refine ⟨fun j w ej => ?_, fun j hj => ⟨xs, hs, by omega⟩⟩
  have : ∀ {xs : List V} {ws : List W} {j : Nat} {w : W}, WvA K H2 M2 xs ws → ws[j]? = some w → ∃ x, xs[j]? = some x ∧ Wv K H2 M2 x w := by
    intro xs ws j w h
    induction h generalizing j with
    | nil => intro q; simp at q
    | cons r t ih =>
      intro q
      cases j with
      | zero => simp at q; subst q; exact ⟨_, rfl, r⟩
      | succ j => obtain ⟨a, z1, z2⟩ := ih (j := j) (by simpa using q); exact ⟨a, by simpa using z1, z2⟩
  obtain ⟨x, ex, rx⟩ := this hw ej
  refine ⟨⟨xs, x, hs, ex⟩, fun y H3 ⟨e3, hy⟩ => ?_⟩
  subst e3
  have q := hy xs hs
  rw [ex] at q
  cases q
  exact ⟨.refl _ _, d, rx⟩
theorem jl_tup {K : PySem.W.Frag} {H1 : Hp} {M1 : MH} {a : Addr} {ws : List W} {kc : MH → Prop} (h : ∀ H2 M2, Ext H1 M1 H2 M2 → Dok K H2 M2 → kc M2 → ∃ xs, SqT K H2 a xs ∧ WvA K H2 M2 xs ws) : JL K (Itt K a) H1 M1 ws kc := by
  intro H2 M2 e d c
  obtain ⟨xs, hs, hw⟩ := h H2 M2 e d c
  have hl : xs.length = ws.length := Paired.length hw
  refine ⟨fun j w ej => ?_, fun j hj => ⟨xs, hs, by omega⟩⟩
  have : ∀ {xs : List V} {ws : List W} {j : Nat} {w : W}, WvA K H2 M2 xs ws → ws[j]? = some w → ∃ x, xs[j]? = some x ∧ Wv K H2 M2 x w := by
    intro xs ws j w h
    induction h generalizing j with
    | nil => intro q; simp at q
    | cons r t ih =>
      intro q
      cases j with
      | zero => simp at q; subst q; exact ⟨_, rfl, r⟩
      | succ j => obtain ⟨a, z1, z2⟩ := ih (j := j) (by simpa using q); exact ⟨a, by simpa using z1, z2⟩
  obtain ⟨x, ex, rx⟩ := this hw ej
  refine ⟨⟨xs, x, hs, ex⟩, fun y H3 ⟨e3, hy⟩ => ?_⟩
  subst e3
  have q := hy xs hs
  rw [ex] at q
  cases q
  exact ⟨.refl _ _, d, rx⟩
theorem i_tup {tg e : Expr} {t : TEd} (he : QE Y e t) : QI Y tg e (iTupD t) := by
  refine ⟨fun s H σ M Q S h => semIt_of (pi_tup pe_sem) (he.then_ S h fun v H1 w M1 e d r q => ?_)⟩
  split at q
  · rename_i ds
    obtain ⟨p, xs, rfl, h1, h2⟩ := r.tup
    exact ⟨p, rfl, ⟨xs, h1.sq⟩, _, _, M1, e, d, jl_tup fun H2 M2 e2 d2 _ => ⟨xs, (h1.ext e2).sq, (FzA.ext e2 ds xs h2).wv⟩, q⟩
  · exact q.elim
theorem i_lst {tg e : Expr} {t : TEd} (he : QE Y e t) : QI Y tg e (iLstD t) := by
  refine ⟨fun s H σ M Q S h => semIt_of (pi_list pe_sem) (he.then_ S h fun v H1 w M1 e d r q => ?_)⟩
  split at q
  · rename_i ds
    obtain ⟨p, xs, rfl, h1, h2⟩ := r.lst
    exact ⟨p, rfl, ⟨xs, h1.sq⟩, _, _, M1, e, d, jl_list fun H2 M2 e2 d2 _ => ⟨xs, fun _ _ _ => trivial, (h1.ext e2).sq, (FzA.ext e2 ds xs h2).wv⟩, q⟩
  · rename_i ds
    obtain ⟨p, xs, rfl, h1, h2⟩ := r
    exact ⟨p, rfl, ⟨xs, h1.sq⟩, _, _, M1, e, d, jl_list fun H2 M2 e2 d2 _ => ⟨xs, fun _ _ _ => trivial, (h1.ext e2).sq, (FzA.ext e2 ds xs h2).wv⟩, q⟩
  · obtain ⟨ws, hm, q⟩ := q
    obtain rfl := (show v = _ from r)
    obtain ⟨xs, h1, h2⟩ := d _ _ hm
    refine ⟨_, rfl, ⟨xs, SqL.of h1⟩, _, _, M1, e, d, jl_list fun H2 M2 e2 d2 c => ?_, q⟩
    obtain ⟨ys, k1, k2⟩ := d2 _ _ c
    exact ⟨ys, fun _ _ _ => trivial, SqL.of k1, k2⟩
  · exact q.elim
def signs (z : Str) : List W := z.cps.toList.map fun c => W.d (.str ⟨#[c]⟩)
def iStrD (t : TEd) : TId := fun σ M Q => t σ M fun w M1 => match w with | .d (.str z) => Q (signs z) noKc M1 | _ => False
theorem i_str {tg e : Expr} {t : TEd} (he : QE Y e t) : QI Y tg e (iStrD t) := by
  refine ⟨fun s H σ M Q S h => semIt_of (pi_str pe_sem) (he.then_ S h fun v H1 w M1 e d r q => ?_)⟩
  split at q
  · rename_i z
    refine ⟨z, r.str, _, _, M1, e, d, fun H2 M2 e2 d2 _ => ⟨fun j w ej => ?_, fun j hj => ?_⟩, q⟩
    · unfold signs at ej
      rw [List.getElem?_map, Array.getElem?_toList] at ej
      cases hc : z.cps[j]? with
      | none => rw [hc] at ej; cases ej
      | some c =>
        rw [hc] at ej
        cases ej
        refine ⟨(Array.getElem?_eq_some_iff.mp hc).1, fun x H3 ⟨e3, c', hc', ex⟩ => ?_⟩
        subst e3 ex
        rw [hc] at hc'
        cases hc'
        exact ⟨.refl _ _, d2, wStr _⟩
    · show z.cps.size ≤ j
      simpa [signs] using hj
  · exact q.elim
def rng (lo : Int) (n : Nat) : List W := (List.range n).map fun (j : Nat) => W.d (.int (lo + (j : Int)))
def big62 (n : Int) : Prop := -(2 ^ 62) ≤ n ∧ n < 2 ^ 62
theorem jl_rng {K : PySem.W.Frag} {H1 : Hp} {M1 : MH} {lo : Int} {n : Nat} : JL K (Itr lo n) H1 M1 (rng lo n) noKc := by
  intro H2 M2 e d _
  refine ⟨fun j w ej => ?_, fun j hj => ?_⟩
  · unfold rng at ej
    rw [List.getElem?_map] at ej
    cases h : (List.range n)[j]? with
    | none => rw [h] at ej; cases ej
    | some m =>
      rw [h] at ej
      cases ej
      obtain ⟨h1, h2⟩ := List.getElem?_eq_some_iff.mp h
      rw [List.length_range] at h1
      have h3 : j = m := by simpa using h2
      subst h3
      refine ⟨h1, fun x H3 ⟨e3, ex⟩ => ?_⟩
      subst e3 ex
      exact ⟨.refl _ _, d, wInt _⟩
  · show n ≤ j
    simpa [rng] using hj
def iRng1D (t : TAd) : TId := fun σ M Q => t σ M fun ws M1 => match ws with | [.d (.int n)] => big62 n ∧ Q (rng 0 n.toNat) noKc M1 | _ => False
def iRng2D (t : TAd) : TId := fun σ M Q => t σ M fun ws M1 => match ws with | [.d (.int m), .d (.int n)] => big62 m ∧ big62 n ∧ Q (rng m (n - m).toNat) noKc M1 | _ => False
theorem i_rng1 (F : Fm g i k Y) (j : Nat) {tg a : Expr} {t : TAd} {p pos : Pos} (hm : g.mg "range" = none) (ha : QA Y [a] t) (hj : i.gls[j]? = some "range" := by rfl) (hs : starEach [a] Y.X.env = [(false, eval a Y.X.env)] := by rfl) : QI Y tg (.Call (.Name "range" p) [a] [] pos) (iRng1D t) := by
  obtain ⟨h1, _, _⟩ := F.glo j _ hj
  refine ⟨fun s H σ M Q S h => semIt_of (pi_range1 h1 (by rw [F.hmg]; exact hm) pa_sem hs) (ha.then_ S h fun v H1 w M1 e d r q => ?_)⟩
  split at q
  · obtain ⟨v, rfl, r1⟩ := r.one
    exact ⟨_, by rw [r1.int], q.1.1, q.1.2, _, _, M1, e, d, jl_rng, q.2⟩
  · exact q.elim
theorem i_rng2 (F : Fm g i k Y) (j : Nat) {tg a b : Expr} {t : TAd} {p pos : Pos} (hm : g.mg "range" = none) (ha : QA Y [a, b] t) (hj : i.gls[j]? = some "range" := by rfl) (hs : starEach [a, b] Y.X.env = [(false, eval a Y.X.env), (false, eval b Y.X.env)] := by rfl)
    (hs2 : starEach [b] Y.X.env = [(false, eval b Y.X.env)] := by rfl) : QI Y tg (.Call (.Name "range" p) [a, b] [] pos) (iRng2D t) := by
  obtain ⟨h1, _, _⟩ := F.glo j _ hj
  refine ⟨fun s H σ M Q S h => semIt_of (pi_range2 h1 (by rw [F.hmg]; exact hm) pa_sem hs hs2) (ha.then_ S h fun v H1 w M1 e d r q => ?_)⟩
  split at q
  · obtain ⟨v, u, rfl, r1, r2⟩ := r.two
    exact ⟨_, _, by rw [r1.int, r2.int], ⟨q.1.1, q.1.2, q.2.1.1, q.2.1.2⟩, _, _, M1, e, d, jl_rng, q.2.2⟩
  · exact q.elim

/-! ### targets -/
def semG (X : Cx) (tg : Expr) : TG := fun v s H Q => ∀ pins sh u, Inv X pins s H sh → RelV v u → wpAny (model X.prog X.w) X.A (assign tg X.env u) (fun _ s' => ∃ σ' H', Inv X pins σ' H' s' ∧ Q σ' H') X.xe sh
theorem pg_sem {X : Cx} {tg : Expr} : PG X tg (semG X tg) := ⟨fun pins s _ _ _ u _ I r h => h pins s u I r⟩
theorem semG_of {X : Cx} {tg : Expr} {t : TG} (h : PG X tg t) {v : V} {s : L2.St} {H : Hp} {Q : L2.St → Hp → Prop} (q : t v s H Q) : semG X tg v s H Q := fun pins sh u I r => h.run pins sh s H v u Q I r q
theorem semG_mono {X : Cx} {tg : Expr} {v : V} {s : L2.St} {H : Hp} {Q Q' : L2.St → Hp → Prop} (h : semG X tg v s H Q) (k : ∀ σ H, Q σ H → Q' σ H) : semG X tg v s H Q' := fun pins sh u I r =>
  thn (h pins sh u I r) fun _ _ ⟨σ', H', I', q⟩ => ⟨σ', H', I', k _ _ q⟩
abbrev TGd := W → SD → MH → (SD → MH → Prop) → Prop
structure QG (Y : Dx) (tg : Expr) (t : TGd) : Prop where
  run : ∀ s H σ M v w Q, Std Y s H σ M → Wv Y.X.K H M v w → t w σ M Q → semG Y.X tg v s H (upS Y H M Q)
def gNam (j : Nat) : TGd := fun w σ M Q => Q (σ.set j (some w)) M
theorem g_name (F : Fm g i k Y) (j : Nat) {x : Str} {pos : Pos} (hN : i.N[j]? = some x := by rfl) (hl : i.loc.contains j = true := by rfl) : QG Y (.Name x pos) (gNam j) := by
  have hk := F.loc j x hl hN
  exact ⟨fun s H σ M v w Q S r h => semG_of (pg_name (i := j) (by rw [F.N]; exact F.nd) (by rw [F.N]; exact hN) (.inl hk) (.inr hk)) ⟨_, M, .refl _ _, S.set r j, h⟩⟩
theorem g_cell (F : Fm g i k Y) (j : Nat) {x : Str} {pos : Pos} (hN : i.N[j]? = some x := by rfl) (hl : i.cel.contains j = true := by rfl) : QG Y (.Name x pos) (gNam j) := by
  have hk := F.cel j x hl hN
  exact ⟨fun s H σ M v w Q S r h => semG_of (pg_name (i := j) (by rw [F.N]; exact F.nd) (by rw [F.N]; exact hN) (.inr hk.1) (.inl hk.2)) ⟨_, M, .refl _ _, S.set r j, h⟩⟩
/-- (a, b, ..) = a tuple -/
abbrev TGsd := List W → SD → MH → (SD → MH → Prop) → Prop
def semGs (X : Cx) (ts : List Expr) : TGs := fun vs s H Q => ∀ pins sh us, Inv X pins s H sh → Vals vs us → wpAny (model X.prog X.w) X.A (assignInOrder ((assignEach ts X.env).map (·.2)) us) (fun _ s' => ∃ σ' H', Inv X pins σ' H' s' ∧ Q σ' H') X.xe sh
theorem pgs_sem {X : Cx} {ts : List Expr} : PGs X ts (semGs X ts) := ⟨fun pins s _ _ _ us _ I r h => h pins s us I r⟩
theorem semGs_of {X : Cx} {ts : List Expr} {t : TGs} (h : PGs X ts t) {vs : List V} {s : L2.St} {H : Hp} {Q : L2.St → Hp → Prop} (q : t vs s H Q) : semGs X ts vs s H Q := fun pins sh us I r => h.run pins sh s H vs us Q I r q
theorem semGs_mono {X : Cx} {ts : List Expr} {vs : List V} {s : L2.St} {H : Hp} {Q Q' : L2.St → Hp → Prop} (h : semGs X ts vs s H Q) (k : ∀ σ H, Q σ H → Q' σ H) : semGs X ts vs s H Q' := fun pins sh us I r =>
  thn (h pins sh us I r) fun _ _ ⟨σ', H', I', q⟩ => ⟨σ', H', I', k _ _ q⟩
structure QGs (Y : Dx) (ts : List Expr) (t : TGsd) : Prop where
  run : ∀ s H σ M vs ws Q, Std Y s H σ M → WvA Y.X.K H M vs ws → t ws σ M Q → semGs Y.X ts vs s H (upS Y H M Q)
def gNilD : TGsd := fun ws σ M Q => match ws with | [] => Q σ M | _ => False
def gConsD (t : TGd) (u : TGsd) : TGsd := fun ws σ M Q => match ws with | w :: r => t w σ M fun σ' M' => u r σ' M' Q | [] => False
theorem gs_nil : QGs Y [] gNilD := by
  refine ⟨fun s H σ M vs ws Q S r h => ?_⟩
  cases r with
  | nil => exact semGs_of pgs_nil ⟨rfl, σ, M, .refl _ _, S, h⟩
  | cons _ _ => exact (show False from h).elim
theorem gs_cons {e : Expr} {es : List Expr} {t : TGd} {u : TGsd} (h1 : QG Y e t) (h2 : QGs Y es u) (hs : (assignEach (e :: es) Y.X.env).map (·.2) = assign e Y.X.env :: (assignEach es Y.X.env).map (·.2) := by rfl) : QGs Y (e :: es) (gConsD t u) := by
  refine ⟨fun s H σ M vs ws Q S r h => ?_⟩
  cases r with
  | nil => exact (show False from h).elim
  | cons r1 r2 =>
    refine semGs_of (pgs_cons pg_sem pgs_sem hs) ⟨_, _, rfl, semG_mono (h1.run s H σ M _ _ _ S r1 h) fun s1 H1 ⟨σ1, M1, e, S1, q⟩ => ?_⟩
    exact semGs_mono (h2.run s1 H1 σ1 M1 _ _ _ S1 (WvA.ext e r2) q) fun _ _ z => z.trans e
def gTupD (n : Nat) (t : TGsd) : TGd := fun w σ M Q => match w with | .d (.tuple ds) => ds.length = n ∧ t (ds.map W.d) σ M Q | _ => False
theorem g_tup (F : Fm g i k Y) {es : List Expr} {kk : Nat} {t : TGsd} {n : Nat} {pos : Pos} (h : QGs Y es t) (hn : (assignEach es Y.X.env).length = n := by rfl) (hst : (assignEach es Y.X.env).findIdx? (·.1) = none := by rfl) : QG Y (.Tuple es kk pos) (gTupD n t) := by
  refine ⟨fun s H σ M v w Q S r hq => ?_⟩
  unfold gTupD at hq
  split at hq
  · obtain ⟨p, xs, rfl, h1, h2⟩ := r.tup
    exact semG_of (pg_tup F.calm pgs_sem hn hst) ⟨p, xs, rfl, h1.sq, by rw [h2.length]; exact hq.1, h.run s H σ M xs _ Q S h2.wv hq.2⟩
  · exact hq.elim
end
end Dl
set_option Elab.async false
set_option linter.all false
set_option maxRecDepth 100000
namespace Dl
open PySem PySem.Spec PyProof.Rows L2

section
variable {g : Gc} {i : Si} {k : Nat} {Y : Dx}
/-! ### statements -/
def tNxt : TSd := fun D σ M => D.nx σ M
def tSq (t u : TSd) : TSd := fun D σ M => t { D with nx := u D } σ M
theorem ss_nil : QSs Y [] tNxt := ⟨fun _ _ σ M _ S h => semSs_of pss_nil ⟨σ, M, .refl _ _, S, h⟩⟩
theorem ss_cons {st : Stmt} {rest : List Stmt} {t u : TSd} (h1 : QS Y st t) (h2 : QSs Y rest u) : QSs Y (st :: rest) (tSq t u) := by
  refine ⟨fun s H σ M D S h => semSs_of (pss_cons ps_sem pss_sem) ?_⟩
  exact semS_mono (h1.run s H σ M { D with nx := u D } S h) (fun s1 H1 ⟨σ1, M1, e, S1, q⟩ => semSs_up e (h2.run s1 H1 σ1 M1 D S1 q)) (fun _ _ z => z) (fun _ _ z => z) fun _ _ z => z
theorem ss_one {st : Stmt} {t : TSd} (h1 : QS Y st t) : QSs Y [st] t := ⟨fun s H σ M D S h => semSs_of (pss_one ps_sem) (h1.run s H σ M D S h)⟩
def tRtn (t : TEd) : TSd := fun D σ M => t σ M D.rt
theorem s_ret {e : Expr} {t : TEd} {pos : Pos} (h : QE Y e t) : QS Y (.Return (some e) pos) (tRtn t) := ⟨fun s H σ M D S hq => semS_of (ps_ret pe_sem) (h.run s H σ M D.rt S hq)⟩
def tRtn0 : TSd := fun D _ M => D.rt (.d .none) M
theorem s_ret0 {pos : Pos} : QS Y (.Return none pos) tRtn0 := ⟨fun _ _ _ _ _ S h => semS_of ps_retN (S.here wNone h)⟩
def tIfD (c : TTd) (t u : TSd) : TSd := fun D σ M => c σ M fun b M1 => if b = true then t D σ M1 else u D σ M1
theorem s_if {c : Expr} {a b : List Stmt} {tc : TTd} {t u : TSd} {pos : Pos} (hc : QT Y c tc) (ha : QSs Y a t) (hb : QSs Y b u) : QS Y (.If c a b pos) (tIfD tc t u) := by
  refine ⟨fun s H σ M D S hq => semS_of (ps_if pt_sem pss_sem pss_sem) (hc.then_ S hq fun c H1 M1 e d q => ?_)⟩
  cases c with
  | true => exact iteT (semSs_up e (ha.run s H1 σ M1 D (S.go e d) (by simpa using q)))
  | false => exact iteF (semSs_up e (hb.run s H1 σ M1 D (S.go e d) (by simpa using q)))
def tAsn (t : TEd) (gt : TGd) : TSd := fun D σ M => t σ M fun w M1 => gt w σ M1 D.nx
theorem s_set {tg e : Expr} {t : TEd} {gt : TGd} {pos : Pos} (he : QE Y e t) (hg : QG Y tg gt) (hs : swapsWithSole [tg] e pos.line Y.X.env = pure false := by rfl) (hw : swappedStores [tg] e Y.X.env = pure none := by rfl)
    (h1 : (assignEach [tg] Y.X.env).map (·.2) = [assign tg Y.X.env] := by rfl) : QS Y (.Assign [tg] e pos) (tAsn t gt) := by
  refine ⟨fun s H σ M D S h => semS_of (ps_asg pe_sem pg_sem hs hw h1) (he.then_ S h fun v H1 w M1 e d r q => ?_)⟩
  exact semG_mono (hg.run s H1 σ M1 v w D.nx (S.go e d) r q) fun _ _ z => z.trans e
/-- a, b = x, y with plain local names -/
def tPr (a b : Nat) (t : TAd) : TSd := fun D σ M => t σ M fun ws M1 => match ws with | [w, u] => D.nx ((σ.set a (some w)).set b (some u)) M1 | _ => False
theorem s_par (F : Fm g i k Y) (a b : Nat) {x y : Str} {ea eb : Expr} {t : TAd} {px py pt : Pos} {kt k2 pt2} {pos : Pos} (ha : QA Y [ea, eb] t) (hi : i.N[a]? = some x := by rfl) (hj : i.N[b]? = some y := by rfl) (la : i.loc.contains a = true := by rfl) (lb : i.loc.contains b = true := by rfl) (hab : a ≠ b := by decide)
    (hw' : ∀ env : Env, swappedStores [.Tuple [.Name x px, .Name y py] kt pt] (.Tuple [ea, eb] k2 pt2) { env with scope := i.sc } = pure (some [x, y]) := by intro; rfl)
    (hs : swapsWithSole [.Tuple [.Name x px, .Name y py] kt pt] (.Tuple [ea, eb] k2 pt2) pos.line Y.X.env = pure false := by rfl) :
    QS Y (.Assign [.Tuple [.Name x px, .Name y py] kt pt] (.Tuple [ea, eb] k2 pt2) pos) (tPr a b t) := by
  have hw : swappedStores [.Tuple [.Name x px, .Name y py] kt pt] (.Tuple [ea, eb] k2 pt2) Y.X.env = pure (some [x, y]) := by
    have e : Y.X.env = { Y.X.env with scope := i.sc } := by rw [← F.hsc]
    rw [e]
    exact hw' _
  refine ⟨fun s H σ M D S h => semS_of (ps_par (i := a) (j := b) F.calm (by rw [F.N]; exact F.nd) (by rw [F.N]; exact hi) (by rw [F.N]; exact hj) hab (F.loc a x la hi) (F.loc b y lb hj) pa_sem hw hs) (ha.then_ S h fun vs H1 ws M1 e d r q => ?_)⟩
  split at q
  · obtain ⟨v, u, rfl, r1, r2⟩ := r.two
    exact ⟨v, u, rfl, _, M1, e, ((S.go e d).set r1 a).set r2 b, q⟩
  · exact q.elim
def tDrp (t : TEd) : TSd := fun D σ M => t σ M fun _ M1 => D.nx σ M1
theorem s_expr {e : Expr} {t : TEd} {pos : Pos} (he : QE Y e t) (hs : swapsWith e none pos.line Y.X.env = pure false := by rfl) : QS Y (.Expr e pos) (tDrp t) :=
  ⟨fun s H σ M D S h => semS_of (ps_expr pe_sem hs) (he.then_ S h fun v H1 w M1 e d r q => ⟨σ, M1, e, S.go e d, q⟩)⟩
theorem s_pass {pos : Pos} : QS Y (.Pass pos) tNxt := ⟨fun _ _ σ M _ S h => semS_of ps_pass ⟨σ, M, .refl _ _, S, h⟩⟩
theorem s_doc {x j pos pos'} : QS Y (.Expr (.Constant (.str x) j pos) pos') tNxt := ⟨fun _ _ σ M _ S h => semS_of ps_doc ⟨σ, M, .refl _ _, S, h⟩⟩
def tBrk : TSd := fun D σ M => D.bk σ M
def tCnt : TSd := fun D σ M => D.ct σ M
theorem s_brk {pos : Pos} : QS Y (.Break pos) tBrk := ⟨fun _ _ σ M _ S h => semS_of ps_break ⟨σ, M, .refl _ _, S, h⟩⟩
theorem s_cnt {pos : Pos} : QS Y (.Continue pos) tCnt := ⟨fun _ _ σ M _ S h => semS_of ps_continue ⟨σ, M, .refl _ _, S, h⟩⟩
/-- o[i] = v, o a list that may change -/
def gSubD (to ti : TEd) : TGd := fun w σ M Q => to σ M fun o M1 => ti σ M1 fun j M2 => match o, j with
  | .ref p, .d (.int n) => ∃ ws, M2 p = some (.lst ws) ∧ ∃ m, ixN ws.length n = some m ∧ Q σ (mset M2 p (.lst (ws.set m w)))
  | _, _ => False
theorem set_paired {α β : Type} {R : α → β → Prop} {a : α} {b : β} (r : R a b) : ∀ {xs : List α} {ys : List β} (n : Nat), Paired R xs ys → Paired R (xs.set n a) (ys.set n b)
  | _, _, _, .nil => .nil
  | _, _, 0, .cons _ t => .cons r t
  | _, _, n + 1, .cons q t => .cons q (set_paired r n t)
theorem g_sub {o j : Expr} {to ti : TEd} {pos : Pos} (ho : QE Y o to) (hi : QE Y j ti)
    (ha : ∀ v, assign (.Subscript o j pos) Y.X.env v = (do
      let ov ← holding [v] (eval o Y.X.env)
      let iv ← holding [v, ov] (eval j Y.X.env)
      standAt pos
      holding [v, ov, iv] (setItem ov iv v)
      release [v, ov, iv] []) := by intro _; rfl) : QG Y (.Subscript o j pos) (gSubD to ti) := by
  refine ⟨fun s H σ M v w Q S r h => semG_of (pg_sub pe_sem pe_sem set_list ha) (ho.then_ S h fun vo H1 wo M1 e d r1 q => hi.then_ (S.go e d) q fun vi H2 wi M2 e2 d2 r2 q2 => ?_)⟩
  split at q2
  · rename_i p n
    obtain ⟨ws, hm, m, hx, q⟩ := q2
    obtain rfl := (show vo = _ from r1)
    obtain ⟨xs, k1, k2⟩ := d2 _ _ hm
    have hl : xs.length = ws.length := Paired.length k2
    have nn : M2 p ≠ none := by rw [hm]; exact fun z => by cases z
    have rw' := r.ext (e.trans e2)
    have X : Ext H2 M2 (upd H2 p (.lst (xs.set m v))) (mset M2 p (.lst (ws.set m w))) := ext_mut (.inl nn)
    have dd : Dok Y.X.K (upd H2 p (.lst (xs.set m v))) (mset M2 p (.lst (ws.set m w))) := dok_mut (u := .lst (ws.set m w)) d2 (.inl nn) fun e => ⟨_, upd_same, WvA.ext e (set_paired rw' m k2)⟩
    exact ⟨p, xs, n, m, rfl, r2.int, k1, by rw [hl]; exact hx, σ, _, (e.trans e2).trans X, S.go ((e.trans e2).trans X) dd, q⟩
  · exact q2.elim

/-! ### loops -/
def tForD (ti : TId) (gt : TGd) (tb : TSd) : TSd := fun D σ M => ti σ M fun ws kc M1 => ∃ I : Nat → SD → MH → Prop, I 0 σ M1 ∧ (∀ j σ2 M2, I j σ2 M2 → kc M2) ∧
  (∀ j w σ2 M2, ws[j]? = some w → I j σ2 M2 → gt w σ2 M2 fun σ3 M3 => tb { D with nx := I (j + 1), ct := I (j + 1), bk := D.nx } σ3 M3) ∧ (∀ σ2 M2, I ws.length σ2 M2 → D.nx σ2 M2)
theorem s_for (F : Fm g i k Y) {tg iter : Expr} {body : List Stmt} {ti : TId} {gt : TGd} {tb : TSd} {pos : Pos} (hi : QI Y tg iter ti) (hg : QG Y tg gt) (hb : QSs Y body tb) (hs : ∀ x, foldedSetIterable iter Y.X.env x = pure x := by intro _; rfl) : QS Y (.For tg iter body [] pos) (tForD ti gt tb) := by
  refine ⟨fun s H σ M D S h => semS_of (ps_for F.po F.calm pi_sem pg_sem pss_sem hs) ?_⟩
  have z := hi.run s H σ M _ S h
  intro pins1 sh1 I1
  refine thn (z pins1 sh1 I1) fun v s1 hv => thn hv fun it s2 ⟨ad, fp, tn, J, H1, e1, e2, e3, e4, e5, ws, kc, M1, e, d, jl, I, i0, ikc, step, done⟩ => ?_
  refine ⟨ad, fp, tn, J, H1, e1, e2, e3, e4, e5, fun j m s' H' => m = ws.length - j ∧ j ≤ ws.length ∧ ∃ σ' M', Ext H1 M1 H' M' ∧ Std Y s' H' σ' M' ∧ I j σ' M', ⟨ws.length, by simp, Nat.zero_le _, σ, M1, .refl _ _, S.go e d, i0⟩, ?_⟩
  rintro j m s3 H3 ⟨rfl, hj, σ3, M3, x3, S3, q3⟩
  obtain ⟨hgo, hstop⟩ := jl H3 M3 x3 S3.d (ikc _ _ _ q3)
  by_cases hlt : j < ws.length
  · obtain ⟨hg1, hg2⟩ := hgo j ws[j] (by simp [hlt])
    refine .inr ⟨hg1, upS Y H3 M3 (fun σ' M' => I (j + 1) σ' M'), fun s4 H4 ⟨σ4, M4, x4, S4, q4⟩ => ⟨ws.length - (j + 1), by omega, rfl, hlt, σ4, M4, x3.trans x4, S4, q4⟩, fun x H4 hy => ?_⟩
    obtain ⟨x4, d4, r4⟩ := hg2 x H4 hy
    have q5 := step j ws[j] σ3 M3 (by simp [hlt]) q3
    refine semG_mono (hg.run s3 H4 σ3 M3 x _ _ (S3.go x4 d4) r4 q5) fun s5 H5 ⟨σ5, M5, x5, S5, q6⟩ => ?_
    have z6 := hb.run s5 H5 σ5 M5 _ S5 q6
    exact semSs_mono z6 (fun _ _ z => z.trans (x4.trans x5)) (fun _ _ z => z.trans (((e.trans x3).trans x4).trans x5)) (fun _ _ z => z.trans (((e.trans x3).trans x4).trans x5)) (fun _ _ z => z.trans (x4.trans x5))
  · have hj' : j = ws.length := by omega
    subst hj'
    exact .inl ⟨hstop _ (Nat.le_refl _), σ3, M3, e.trans x3, S3, done _ _ q3⟩
def tWhl (c : TTd) (tb : TSd) : TSd := fun D σ M => ∃ I : Nat → SD → MH → Prop, (∃ m, I m σ M) ∧ ∀ m σ M, I m σ M →
  c σ M fun b M1 => if b = true then tb { D with nx := fun σ' M' => ∃ m', m' < m ∧ I m' σ' M', ct := fun σ' M' => ∃ m', m' < m ∧ I m' σ' M', bk := D.nx } σ M1 else D.nx σ M1
theorem s_while (F : Fm g i k Y) {c : Expr} {body : List Stmt} {tc : TTd} {tb : TSd} {pos : Pos} (hc : QT Y c tc) (hb : QSs Y body tb) : QS Y (.While c body [] pos) (tWhl tc tb) := by
  refine ⟨fun s H σ M D S h => semS_of (ps_while F.po pt_sem pss_sem) ?_⟩
  obtain ⟨I, ⟨m0, i0⟩, step⟩ := h
  refine ⟨fun m s' H' => ∃ σ' M', Ext H M H' M' ∧ Std Y s' H' σ' M' ∧ I m σ' M', ⟨m0, σ, M, .refl _ _, S, i0⟩, fun m s1 H1 ⟨σ1, M1, e1, S1, q1⟩ => ?_⟩
  refine hc.then_ S1 (step m σ1 M1 q1) fun b H2 M2 e2 d2 q2 => ?_
  cases b with
  | true =>
    refine iteT ⟨upS Y H2 M2 (fun σ' M' => ∃ m', m' < m ∧ I m' σ' M'), fun s3 H3 ⟨σ3, M3, e3, S3, m', hm, q3⟩ => ⟨m', hm, σ3, M3, (e1.trans e2).trans e3, S3, q3⟩, ?_⟩
    have z := hb.run s1 H2 σ1 M2 _ (S1.go e2 d2) (show tb _ σ1 M2 from by simpa using q2)
    exact semSs_mono z (fun _ _ z => z) (fun _ _ z => z.trans (e1.trans e2)) (fun _ _ z => z.trans (e1.trans e2)) (fun _ _ z => z)
  | false => exact iteF ⟨σ1, M2, e1.trans e2, S1.go e2 d2, by simpa using q2⟩
end
end Dl
set_option Elab.async false
set_option linter.all false
set_option maxRecDepth 100000
namespace Dl
open PySem PySem.Spec PyProof.Rows L2

/-! ### defs -/
abbrev SpD := List W → MH → (W → MH → Prop) → XD → Prop
def lift (K : PySem.W.Frag) (sp : SpD) : Sp := fun vs H Q E => ∃ ws M Qd Ed, Dok K H M ∧ WvA K H M vs ws ∧ sp ws M Qd Ed ∧
  (∀ v H' w M', Ext H M H' M' → Dok K H' M' → Wv K H' M' v w → Qd w M' → Q v H') ∧ (∀ cls d H' fs M', Ext H M H' M' → Dok K H' M' → XFs K H' M' d fs → Ed cls fs M' → E cls d H')
structure FnG (g : Gc) (k : Nat) (f : Addr) (fd : FuncData) (ps : List Str) (sp : SpD) : Prop where
  len : ∀ ws M Q E, sp ws M Q E → ws.length = ps.length
  run : ∀ (A : Around) (outer : List Env) (s : Shared) (H : Hp) (args : Args) (us : List Value) (vs : List V) (Q : VK) (E : XK), A.guards = some [] → Room k A → Env0 g.P g.w g.K g.mg g.base A outer s H →
    BindsTo s fd args (ps.zip us) → Vals vs us → lift g.K sp vs H Q E → codeAny (model g.P g.w) A (.call (.ref f) args) (CR (L2.CX g.P g.w) outer g.P g.w H s Q E) s
theorem FnG.mono {g : Gc} {j k : Nat} {f : Addr} {fd : FuncData} {ps : List Str} {sp : SpD} (F : FnG g j f fd ps sp) (h : j ≤ k) : FnG g k f fd ps sp :=
  ⟨F.len, fun A outer s H args us vs Q E hg hr => F.run A outer s H args us vs Q E hg (hr.mono h)⟩
theorem FnG.imp {g : Gc} {k : Nat} {f : Addr} {fd : FuncData} {ps : List Str} {sp sp' : SpD} (F : FnG g k f fd ps sp) (h : ∀ ws M Q E, sp' ws M Q E → sp ws M Q E) : FnG g k f fd ps sp' :=
  ⟨fun ws M Q E q => F.len ws M Q E (h _ _ _ _ q), fun A outer s H args us vs Q E hg hr he hb hv ⟨ws, M, Qd, Ed, h1, h2, h3, h4⟩ => F.run A outer s H args us vs Q E hg hr he hb hv ⟨ws, M, Qd, Ed, h1, h2, h _ _ _ _ h3, h4⟩⟩
def startD (N : List Str) (ws : List W) : SD := ws.map some ++ List.replicate (N.length - ws.length) none

/-- what the scope's look gives -/
theorem vis_of {N : List Str} {sc : Scope} {l : List Nat} (h : visOk N sc l = true) : ∀ j x, l.contains j = true → N[j]? = some x → Vis sc x ∧ (x == ("__debug__" : Str)) = false ∧ (x == ("__classdict__" : Str)) = false := by
  intro j x hj hx
  unfold visOk at h
  have z := List.all_eq_true.mp h j (by simpa using hj)
  rw [hx] at z
  simp only [Bool.and_eq_true, beq_iff_eq] at z
  obtain ⟨⟨z1, z2⟩, z3⟩ := z
  refine ⟨?_, by simpa using z2, by simpa using z3⟩
  split at z1
  · exact .inl (by assumption)
  · exact .inr (.inl (by assumption))
  · exact .inr (.inr (by assumption))
  · cases z1
theorem kind_of {N : List Str} {sc : Scope} {kd : NameKind} {l : List Nat} (h : kindOk N sc kd l = true) : ∀ j x, l.contains j = true → N[j]? = some x → sc.names.lookup x = some kd := by
  intro j x hj hx
  unfold kindOk at h
  have z := List.all_eq_true.mp h j (by simpa using hj)
  rw [hx] at z
  simpa using z
theorem glo_of {sc : Scope} {l : List Str} (h : gloOk sc l = true) : ∀ (j : Nat) x, l[j]? = some x → sc.names.lookup x = some .globalImplicit ∧ (x == ("__debug__" : Str)) = false ∧ x ≠ "__name__" := by
  intro j x hx
  unfold gloOk at h
  have z := List.all_eq_true.mp h x (List.mem_of_getElem? hx)
  simp only [Bool.and_eq_true, decide_eq_true_eq, beq_iff_eq] at z
  exact ⟨z.1.1, by simpa using z.1.2, z.2⟩
/-- all looks at a def's scope -/
structure ScOk (i : Si) (sc : Scope) : Prop where
  e : i.sc = sc
  v : visOk i.N sc i.vis = true
  l : kindOk i.N sc .local i.loc = true
  c : kindOk i.N sc .cell i.cel = true
  g : gloOk sc i.gls = true

theorem fng_of {g : Gc} {i : Si} {k : Nat} {x qual : Str} {st : Stmt} {f : Addr} {fd : FuncData} {ps : List Str} {sp : SpD} (F : Fun g.K x qual st f fd) (Sc : FnScope i.N ps (defScope st)) (ok : ScOk i (defScope st)) (hsy : SysOk g.base)
    (len : ∀ ws M Q E, sp ws M Q E → ws.length = ps.length)
    (body : ∀ (Y : Dx) (ws : List W) (M : MH) (Q : W → MH → Prop) (E : XD), Fm g i k Y → Y.wd = (fun cls fs _ M' => E cls fs M') → sp ws M Q E → ∃ t, QSs Y (defBody st) t ∧ t { nx := fun _ M' => Q (.d .none) M', rt := Q } (startD i.N ws) M) :
    FnG g (k + 1) f fd ps sp := by
  obtain ⟨oc, od, kV, doc, pm, an, cdv, ct, osl, rfl, lk, hcd⟩ := F.ex
  refine ⟨len, fun A outer s H args us vs Q E hgd hr e0 hb rv hlift => ?_⟩
  obtain ⟨ws, M, Qd, Ed, hD, hw, hsp, kQ, kE⟩ := hlift
  have lw := len _ _ _ _ hsp
  have lv : vs.length = ps.length := (Paired.length hw).trans lw
  have KX : g.K.In s.heap := e0.mod.kin.keeps fun b o z => (e0.bs b o z).1
  have nolim : s.heap.NoLimit := e0.mod.nolimit.keeps fun b o z => (e0.bs b o z).1
  have kinds : ∀ y ∈ ps.zip us, (defScope st).names.lookup y.1 = some .local ∨ ((defScope st).names.lookup y.1 = some .cell ∧ ((cellsFrom (s.heap.objs.size + 1) (defScope st).names []).lookup y.1).isSome = true) := by
    rintro ⟨n, u⟩ hy
    have hn := (List.of_mem_zip hy).1
    rcases Sc.par n hn with z | z
    · exact Or.inl z
    · exact Or.inr ⟨z, PySem.W.cellsFrom_some _ _ _ (Or.inl z)⟩
  refine codeAny_call_function hr.depth (KX _ _ lk) rfl Sc.co Sc.gen rfl (PySem.W.codeRec_of KX hcd) ?_
  refine hb _ _ _ _ ?_
  refine wpAny_newFunctionEnv_cells Sc.kind kinds fun env henv s1 inC => ?_
  subst henv
  refine ⟨nolim.keeps inC.toInCall.keep, ?_⟩
  refine codeAny_func ?_
  obtain ⟨X, hX⟩ : ∃ X, X = cxOf (L2.CX g.P g.w) g.P g.w g.K g.mg g.base i.N qual (defScope st) f cdv A outer s H E := ⟨_, rfl⟩
  have I : Inv X [] (start i.N vs) H s1 := by subst hX; exact inv_start Sc hr.hd e0 lv rv inC
  obtain ⟨Y, hY⟩ : ∃ Y : Dx, Y = { X := X, H0 := H, M0 := M, wd := fun cls fs _ M' => Ed cls fs M' } := ⟨_, rfl⟩
  have hXK : X.K = g.K := by subst hX; rfl
  have hYX : Y.X = X := by rw [hY]
  have Fmm : Fm g i k Y := by
    subst hY
    subst hX
    refine ⟨rfl, rfl, rfl, rfl, rfl, rfl, ok.e.symm, Sc.nd, rfl, hgd, hr.deeper _, vis_of ok.v, kind_of ok.l, fun j x h1 h2 => ⟨kind_of ok.c j x h1 h2, rfl⟩, glo_of ok.g, hsy, ?_, ?_⟩
    · refine (takes_of (E := E) rfl rfl rfl rfl).imp fun cls d s' H' ⟨σ', M', fs, S', xf, w⟩ => ?_
      exact kE cls d H' fs M' S'.e S'.d xf w
    · exact passes_of rfl
  obtain ⟨t, ht, hq⟩ := body Y ws M Qd Ed Fmm (by rw [hY]) hsp
  have hD' : Dok X.K H M := by rw [hXK]; exact hD
  have hw' : WvA X.K H M vs ws := by rw [hXK]; exact hw
  have St0 : Std Y (start i.N vs) H (startD i.N ws) M := by
    subst hY
    refine ⟨.refl _ _, hD', ?_⟩
    unfold L2.start startD
    rw [Paired.length hw]
    exact slots_start _ hw'
  have run := ht.run _ _ _ _ _ St0 hq [] s1 (by rw [hYX]; exact I)
  rw [hYX] at run
  have fin : ∀ {σ' : L2.St} {H' : Hp} {v : V} {u : Value} {s' : Shared}, Inv X [] σ' H' s' → RelV v u → up Y H M Qd v H' → CE outer g.P g.w H s Q u s' := by
    intro σ' H' v u s' J rv ⟨w, M', e1, d1, r1, q1⟩
    rw [hYX, hXK] at d1 r1
    have q2 := kQ v H' w M' e1 d1 r1 q1
    subst hX
    exact ⟨v, H', J.os, J.bare, J.base, J.hok, rv, q2⟩
  subst hX
  refine wpAny_mono run (fun fl s' hs => ?_) fun e s' hs => hs
  cases fl with
  | next =>
    obtain ⟨σ', H', J, σd, M', e1, S1, q⟩ := hs
    exact fin (v := V.non) (u := Value.none) J rfl ⟨_, M', e1, S1.d, wNone, q⟩
  | ret u =>
    obtain ⟨v, σ', H', J, rv, q⟩ := hs
    exact fin J rv q
  | brk => obtain ⟨_, _, _, _, _, _, _, q⟩ := hs; exact q.elim
  | cont => obtain ⟨_, _, _, _, _, _, _, q⟩ := hs; exact q.elim

/-- a def of the module, for its callers -/
structure Df (g : Gc) (k : Nat) (x : Str) (ps : List Str) (sp : SpD) : Prop where
  ex : ∃ f fd, FnG g k f fd ps sp ∧ g.mg x = some (.ref f) ∧ PySem.W.keepIn g.K (.ref f) = true ∧ Binds g.K fd ps []
theorem Df.imp {g : Gc} {k : Nat} {x : Str} {ps : List Str} {sp sp' : SpD} (D : Df g k x ps sp) (h : ∀ ws M Q E, sp' ws M Q E → sp ws M Q E) : Df g k x ps sp' := by
  obtain ⟨f, fd, F, z⟩ := D.ex
  exact ⟨f, fd, F.imp h, z⟩

section
variable {g : Gc} {i : Si} {k : Nat} {Y : Dx}
def tFn (sp : SpD) (wd : Value → XF → SD → MH → Prop) (t : TAd) : TEd := fun σ M Q => t σ M fun ws M1 => sp ws M1 Q (fun cls fs M' => wd cls fs σ M')
theorem fn_run (F : Fm g i k Y) {j : Nat} {f : Addr} {fd : FuncData} {ps : List Str} {sp : SpD} (D : FnG g j f fd ps sp) (hj : j ≤ k) (hb : Binds g.K fd ps []) {s H σ M vs ws Q} (S : Std Y s H σ M) (r : WvA Y.X.K H M vs ws) (h : sp ws M Q (fun cls fs M' => Y.wd cls fs σ M')) {pins : List (Addr × Obj)} {sh : Shared} {us : List Value}
    (I : Inv Y.X pins s H sh) (ru : Vals vs us) : wpAny (model Y.X.prog Y.X.w) Y.X.A (call (.ref f) us) (EP Y.X pins s (up Y H M Q)) Y.X.xe sh := by
  have lw := D.len _ _ _ _ h
  have lu : us.length = ps.length := by rw [← ru.length, Paired.length r, lw]
  have kin : g.K.In sh.heap := by rw [← F.hK]; exact I.kIn
  have bd := hb sh us kin (by rw [List.append_nil]; exact lu)
  rw [List.append_nil] at bd
  have e0 : Env0 g.P g.w g.K g.mg g.base Y.X.A Y.X.stack sh H := by rw [← F.hP, ← F.hw, ← F.hK, ← F.hmg, ← F.hb]; exact I.env0
  have hl : lift g.K sp vs H (up Y H M Q) (fun cls d H' => upX Y Y.wd cls d s H') := by
    refine ⟨ws, M, Q, _, by rw [← F.hK]; exact S.d, by rw [← F.hK]; exact r, h, fun v H' w M' e d r q => ⟨w, M', e, by rw [F.hK]; exact d, by rw [F.hK]; exact r, q⟩, fun cls d H' fs M' e dk xf w => ?_⟩
    exact ⟨σ, M', fs, S.go e (by rw [F.hK]; exact dk), by rw [F.hK]; exact xf, w⟩
  have z := D.run Y.X.A Y.X.stack sh H ⟨us, []⟩ us vs _ _ F.gd (F.room.mono hj) e0 bd ru hl
  rw [F.hP, F.hw]
  refine wpAny_call (codeAny_mono z fun res s' hq => ?_)
  rw [← F.hP, ← F.hw] at hq
  cases res with
  | error e => exact passAt F.tk s pins H sh e s' I hq
  | ok fl =>
    cases fl with
    | ret u => exact I.after hq
    | next => exact (show False from hq).elim
    | brk => exact (show False from hq).elim
    | cont => exact (show False from hq).elim
theorem q_call (F : Fm g i k Y) (j : Nat) {m : Nat} {x : Str} {ps : List Str} {sp : SpD} {e : Expr} {es : List Expr} {t : TAd} {p pos : Pos} (D : Df g m x ps sp) (ha : QA Y (e :: es) t) (hm : m ≤ k := by first | exact Nat.le_refl _ | decide | omega) (hj : i.gls[j]? = some x := by rfl)
    (he : starEach (e :: es) Y.X.env = (false, eval e Y.X.env) :: starEach es Y.X.env := by rfl) (hpl : (backTo pos (starEach es Y.X.env)).any (·.1) = false := by rfl) : QE Y (.Call (.Name x p) (e :: es) [] pos) (tFn sp Y.wd t) := by
  obtain ⟨h1, h2, h3⟩ := F.glo j x hj
  obtain ⟨f, fd, FD, mgf, kp, hb⟩ := D.ex
  refine ⟨fun s H σ M Q S h pins sh I => ?_⟩
  refine wpAny_Call_Name_kw (ld_glob I h1 (by rw [F.hmg]; exact mgf) ?_ h2)
  refine PySem.W.callWith_K (h₀ := Y.X.base) I.ok.mod.kin (by rw [F.hK]; exact kp) (thn ((ha.run s H σ M _ S h) pos pins sh I) fun us s1 ⟨vs, H1, I1, r, ws, M1, e1, d1, r1, q1⟩ => ⟨I1.kIn, ?_⟩) he hpl
  exact thn (fn_run F FD hm hb (S.go e1 d1) r1 q1 I1 r) fun _ _ ⟨v, H2, I2, r2, z⟩ => ⟨v, H2, I2, r2, z.trans e1⟩
/-- nothing is raised -/
def noWd : Value → XF → SD → MH → Prop := fun _ _ _ _ => False
theorem q_callW {wd : Value → XF → SD → MH → Prop} (hw : Y.wd = wd) (F : Fm g i k Y) (j : Nat) {m : Nat} {x : Str} {ps : List Str} {sp : SpD} {e : Expr} {es : List Expr} {t : TAd} {p pos : Pos} (D : Df g m x ps sp) (ha : QA Y (e :: es) t) (hm : m ≤ k := by first | exact Nat.le_refl _ | decide | omega) (hj : i.gls[j]? = some x := by rfl)
    (he : starEach (e :: es) Y.X.env = (false, eval e Y.X.env) :: starEach es Y.X.env := by rfl) (hpl : (backTo pos (starEach es Y.X.env)).any (·.1) = false := by rfl) : QE Y (.Call (.Name x p) (e :: es) [] pos) (tFn sp wd t) := by
  subst hw
  exact q_call F j D ha hm hj he hpl
theorem q_call0 (F : Fm g i k Y) (j : Nat) {m : Nat} {x : Str} {ps : List Str} {sp : SpD} {p pos : Pos} (D : Df g m x ps sp) (hm : m ≤ k := by first | exact Nat.le_refl _ | decide | omega) (hj : i.gls[j]? = some x := by rfl) : QE Y (.Call (.Name x p) [] [] pos) (tFn sp Y.wd tNilA) := by
  obtain ⟨h1, h2, h3⟩ := F.glo j x hj
  obtain ⟨f, fd, FD, mgf, kp, hb⟩ := D.ex
  refine ⟨fun s H σ M Q S h pins sh I => ?_⟩
  refine wpAny_Call_Name_kw (ld_glob I h1 (by rw [F.hmg]; exact mgf) ?_ h2)
  exact PySem.W.callWith_K0 I.kIn (by rw [F.hK]; exact kp) (fn_run F FD hm hb S .nil h I .nil)
end
end Dl
set_option Elab.async false
set_option linter.all false
set_option maxRecDepth 100000
namespace Dl
open PySem PySem.Spec PyProof.Rows L2

/-! ### list comprehensions -/
inductive Tg where
  | one (j : Nat)
  | many (js : List Nat)
def Tg.js : Tg → List Nat
  | .one j => [j]
  | .many js => js
def setN : SD → List Nat → List W → SD
  | σ, j :: js, w :: ws => setN (σ.set j (some w)) js ws
  | σ, _, _ => σ
def tgQ (T : Tg) (w : W) (σ : SD) (Q : SD → Prop) : Prop := match T with
  | .one j => Q (σ.set j (some w))
  | .many js => match w with
    | .d (.tuple ds) => ds.length = js.length ∧ Q (setN σ js (ds.map W.d))
    | _ => False
def gNames : List Nat → TGs
  | [] => gNil
  | j :: js => gCons (gName j) (gNames js)
def gV (K : PySem.W.Frag) : Tg → TG
  | .one j => gName j
  | .many js => gTup K js.length (gNames js)
theorem wipe_get (s : L2.St) : ∀ (vs : List Nat) (m : Nat), (L2.wipe s vs)[m]? = if m ∈ vs ∧ m < s.length then some none else s[m]?
  | [], m => by simp [L2.wipe]
  | v :: vs, m => by
    unfold L2.wipe
    have hl := L2.wipe_length s vs
    rw [List.getElem?_set]
    by_cases hv : v = m
    · subst hv
      by_cases hm : v < s.length
      · simp [hl, hm]
      · simp [hl, hm]
    · rw [if_neg hv, wipe_get s vs m]
      have : (m ∈ v :: vs) ↔ m ∈ vs := by
        simp only [List.mem_cons]
        exact ⟨fun z => z.resolve_left (fun e => hv e.symm), .inr⟩
      simp [this]
theorem wipe_wipe_set (s : L2.St) (vs : List Nat) {j : Nat} (h : j ∈ vs) (x : Option V) : L2.wipe (s.set j x) vs = L2.wipe s vs := by
  apply List.ext_getElem?
  intro m
  rw [wipe_get, wipe_get, List.length_set, List.getElem?_set]
  by_cases hm : m ∈ vs ∧ m < s.length
  · rw [if_pos hm, if_pos hm]
  · rw [if_neg hm, if_neg hm]
    by_cases e : j = m
    · subst e
      rw [if_pos rfl]
      have : ¬ j < s.length := fun z => hm ⟨h, z⟩
      simp [this]
    · rw [if_neg e]
theorem wipe_idem (s : L2.St) (vs : List Nat) : L2.wipe (L2.wipe s vs) vs = L2.wipe s vs := by
  apply List.ext_getElem?
  intro m
  rw [wipe_get, wipe_get, L2.wipe_length]
  by_cases hm : m ∈ vs ∧ m < s.length
  · rw [if_pos hm, if_pos hm]
  · rw [if_neg hm, if_neg hm]
structure QTs (Y : Dx) (ifs : List Expr) (t : TTd) : Prop where
  run : ∀ s H σ M Q, Std Y s H σ M → t σ M Q → ∀ pins sh, Inv Y.X pins s H sh →
    wpAny (model Y.X.prog Y.X.w) Y.X.A (forIn ifs true fun c r => if r = true then do let ok ← isTrue c Y.X.env (eval c Y.X.env); pure (ForInStep.yield ok) else pure (ForInStep.yield r)) (TP Y.X pins s (upB Y H M Q)) Y.X.xe sh
def tAll : TTd := fun _ M Q => Q true M
theorem ts_nil {Y : Dx} : QTs Y [] tAll := ⟨fun s H σ M Q S h pins sh I => pts_nil.run pins sh s H _ I ⟨M, .refl _ _, S.d, h⟩⟩
theorem ts_one {Y : Dx} {c : Expr} {t : TTd} (h : QT Y c t) : QTs Y [c] t := ⟨fun s H σ M Q S hq pins sh I => (pts_one pt_sem).run pins sh s H _ I (h.run s H σ M Q S hq)⟩

section
variable {g : Gc} {i : Si} {k : Nat} {Y : Dx}
/-- the block of a comprehension: what it sees of names -/
structure BlOk (i i' : Si) (scope : Scope) (own : List (Str × Nat)) : Prop where
  n : i'.N = i.N
  s : i'.sc = relS scope i.sc
  ok : ScOk i' (relS scope i.sc)
  c : kindOk i'.N scope .cell i'.cel = true
  b : blkC i.N i.sc scope own = true
theorem Fm.blk (F : Fm g i k Y) {i' : Si} {scope : Scope} {own : List (Str × Nat)} (B : BlOk i i' scope own) (s : Shared) (H : Hp) (C : Addr) (cl : List (Str × Addr)) (fp : List Addr) :
    Fm g i' k { X := Y.X.blk s H scope (compEnvC scope cl C Y.X.env) fp, H0 := Y.H0, M0 := Y.M0, wd := fun _ _ _ _ => False } := by
  have e : (compEnvC scope cl C Y.X.env).scope = relS scope i.sc := by rw [← F.hsc]; rfl
  refine ⟨F.hP, F.hw, F.hK, F.hmg, F.hb, F.N.trans B.n.symm, e.trans B.s.symm, by rw [B.n]; exact F.nd, F.calm, F.gd, F.room, ?_, ?_, ?_, ?_, F.sy, ?_, PassesOwn.never⟩
  · intro j x h1 h2
    have z := vis_of B.ok.v j x h1 h2
    rw [← e] at z
    exact z
  · intro j x h1 h2
    have z := kind_of B.ok.l j x h1 h2
    rw [← e] at z
    exact z
  · intro j x h1 h2
    have z := kind_of B.ok.c j x h1 h2
    rw [← e] at z
    refine ⟨z, ?_⟩
    have z2 := kind_of B.c j x h1 h2
    show (scope.names.lookup x == some .cell) = true
    rw [z2]
    rfl
  · intro j x h1
    have z := glo_of B.ok.g j x h1
    rw [← e] at z
    exact z
  · rintro u s' ⟨_, _, _, _, _, _, _, _, _, _, _, _, _, _, _, _, _, _, _, _, _, w⟩
    exact (show False from w).elim

def tLcD (ti : TId) (T : Tg) (tt : TTd) (te : TEd) (vs : List Nat) : TEd := fun σ M Q => ti σ M fun ws kc M1 => ∀ D, M1 D = none → ∃ I : Nat → List W → MH → Prop, I 0 [] (mset M1 D (.lst [])) ∧
  (∀ j acc M2, I j acc M2 → kc M2 ∧ M2 D = some (.lst acc)) ∧
  (∀ j w acc M2, ws[j]? = some w → I j acc M2 → tgQ T w (wipeD σ vs) fun σ2 => tt σ2 M2 fun b M4 => if b = true then te σ2 M4 fun x M5 => M5 D = some (.lst acc) ∧ acc.length < sizeLine ∧ I (j + 1) (acc ++ [x]) (mset M5 D (.lst (acc ++ [x]))) else I (j + 1) acc M4) ∧
  (∀ acc M2, I ws.length acc M2 → dataQ (fun ds M3 => Q (.d (.list ds)) M3) acc (mdel M2 D))
theorem gNames_run {K : PySem.W.Frag} {H : Hp} {M : MH} (vs : List Nat) {s0 : L2.St} : ∀ (js : List Nat) (xs : List V) (ds : List PyData) (s : L2.St) (σ : SD) (Q : L2.St → Hp → Prop), (∀ j ∈ js, j ∈ vs) → ds.length = js.length → FzA K H M xs ds → Slots K H M s σ → L2.wipe s vs = L2.wipe s0 vs →
    (∀ s', Slots K H M s' (setN σ js (ds.map W.d)) → L2.wipe s' vs = L2.wipe s0 vs → Q s' H) → gNames js xs s H Q
  | [], xs, ds, s, σ, Q, _, hl, ha, hs, hw, k => by
    cases ds with
    | cons _ _ => cases hl
    | nil =>
      cases ha
      exact ⟨rfl, k s hs hw⟩
  | j :: js, xs, ds, s, σ, Q, hj, hl, ha, hs, hw, k => by
    cases ds with
    | nil => cases hl
    | cons d ds =>
      cases ha with
      | cons h1 h2 =>
        refine ⟨_, _, rfl, ?_⟩
        exact gNames_run vs js _ ds _ _ Q (fun m hm => hj m (List.mem_cons_of_mem _ hm)) (by simpa using hl) h2 (Slots.set (w := .d d) h1 j hs) (by rw [wipe_wipe_set _ _ (hj j List.mem_cons_self)]; exact hw) k
theorem lc_l2 (F : Fm g i k Y) (i' : Si) (T : Tg) {elt tg iter : Expr} {ifs : List Expr} {scope : Scope} {own : List (Str × Nat)} {ti : TId} {tt : TTd} {te : TEd} (B : BlOk i i' scope own) (hT : ∀ j ∈ T.js, j ∈ own.map (·.2)) (hi : QI Y tg iter ti)
    (hb : ∀ Y' : Dx, Fm g i' k Y' → Y'.wd = noWd → PG Y'.X tg (gV Y'.X.K T) ∧ QTs Y' ifs tt ∧ QE Y' elt te) :
    ∃ (tF : TT) (eF : TE), (∀ (s : Shared) (H : Hp) (C : Addr) (cl : List (Str × Addr)) (fp : List Addr), PG (Y.X.blk s H scope (compEnvC scope cl C Y.X.env) fp) tg (gV Y.X.K T)) ∧ (∀ (s : Shared) (H : Hp) (C : Addr) (cl : List (Str × Addr)) (fp : List Addr), PTs (Y.X.blk s H scope (compEnvC scope cl C Y.X.env) fp) ifs tF) ∧
      (∀ (s : Shared) (H : Hp) (C : Addr) (cl : List (Str × Addr)) (fp : List Addr), PE (Y.X.blk s H scope (compEnvC scope cl C Y.X.env) fp) elt eF) ∧
      ∀ s H σ M Q (R : VK), Std Y s H σ M → tLcD ti T tt te (own.map (·.2)) σ M Q → (∀ v H', up Y H M Q v H' → R v H') → tLc (semIt Y.X tg iter) (gV Y.X.K T) tF eF (own.map (·.2)) s H R := by
  have hblk : ∀ (s : Shared) (H : Hp) (C : Addr) (cl : List (Str × Addr)) (fp : List Addr), ∃ Y' : Dx, Y'.X = Y.X.blk s H scope (compEnvC scope cl C Y.X.env) fp ∧ Y'.H0 = Y.H0 ∧ Y'.M0 = Y.M0 ∧ PG Y'.X tg (gV Y'.X.K T) ∧ QTs Y' ifs tt ∧ QE Y' elt te := fun s H C cl fp =>
    ⟨{ X := Y.X.blk s H scope (compEnvC scope cl C Y.X.env) fp, H0 := Y.H0, M0 := Y.M0, wd := fun _ _ _ _ => False }, rfl, rfl, rfl, hb _ (F.blk B s H C cl fp) rfl⟩
  -- what a block's parts come to, whatever the block
  let tF : TT := fun s H Q => ∀ s0 H0 C cl fp pins sh, Inv (Y.X.blk s0 H0 scope (compEnvC scope cl C Y.X.env) fp) pins s H sh →
    wpAny (model Y.X.prog Y.X.w) Y.X.A (forIn ifs true fun c r => if r = true then do let ok ← isTrue c (compEnvC scope cl C Y.X.env) (eval c (compEnvC scope cl C Y.X.env)); pure (ForInStep.yield ok) else pure (ForInStep.yield r)) (TP (Y.X.blk s0 H0 scope (compEnvC scope cl C Y.X.env) fp) pins s Q) (fun _ _ => False) sh
  let eF : TE := fun s H Q => ∀ s0 H0 C cl fp, semE (Y.X.blk s0 H0 scope (compEnvC scope cl C Y.X.env) fp) elt s H Q
  refine ⟨tF, eF, ?_, ?_, ?_, fun s H σ M Q R S h kR => ?_⟩
  · intro s0 H0 C cl fp
    obtain ⟨Y', hX, _, _, h1, _⟩ := hblk s0 H0 C cl fp
    have hK : Y'.X.K = Y.X.K := by rw [hX]
    rw [← hX, ← hK]
    exact h1
  · intro s0 H0 C cl fp
    exact ⟨fun pins sh s H Q I h => h s0 H0 C cl fp pins sh I⟩
  · intro s0 H0 C cl fp
    exact ⟨fun pins sh s H Q I h => h s0 H0 C cl fp pins sh I⟩
  · intro pins sh I0
    refine thn ((hi.run s H σ M _ S h) pins sh I0) fun v s1 hv => thn hv fun it s2 ⟨ad, fp0, tn, J, H1, e1, e2, e3, e4, e5, ws, kc, M1, e, d, jl, q⟩ => ?_
    refine ⟨ad, fp0, tn, J, H1, e1, e2, e3, e4, e5, fun D nD => ?_⟩
    have mD := d.free nD
    obtain ⟨I, i0, ikc, step, done⟩ := q D mD
    have X1 : Ext H1 M1 (upd H1 D (.lst [])) (mset M1 D (.lst [])) := ext_mut (.inr nD)
    have d1 : Dok Y.X.K (upd H1 D (.lst [])) (mset M1 D (.lst [])) := dok_mut (u := .lst []) d (.inr nD) fun _ => ⟨[], upd_same, .nil⟩
    have S1 : Std Y s (upd H1 D (.lst [])) σ (mset M1 D (.lst [])) := (S.go e d).go X1 d1
    refine ⟨fun j m H' => m = ws.length - j ∧ j ≤ ws.length ∧ ∃ acc M', Ext (upd H1 D (.lst [])) (mset M1 D (.lst [])) H' M' ∧ Dok Y.X.K H' M' ∧ I j acc M', ⟨ws.length, by simp, Nat.zero_le _, [], _, .refl _ _, d1, i0⟩, ?_⟩
    rintro j m H3 ⟨rfl, hj, acc, M3, x3, d3, q3⟩
    obtain ⟨kc3, mD3⟩ := ikc _ _ _ q3
    obtain ⟨hgo, hstop⟩ := jl H3 M3 (X1.trans x3) d3 kc3
    by_cases hlt : j < ws.length
    · obtain ⟨hg1, hg2⟩ := hgo j ws[j] (by simp [hlt])
      refine .inr ⟨hg1, fun H' => ∃ acc M', Ext (upd H1 D (.lst [])) (mset M1 D (.lst [])) H' M' ∧ Dok Y.X.K H' M' ∧ I (j + 1) acc M', fun H4 z => ⟨ws.length - (j + 1), by omega, rfl, hlt, z⟩, fun x H4 hy => ?_⟩
      obtain ⟨x4, d4, r4⟩ := hg2 x H4 hy
      have q5 := step j ws[j] acc M3 (by simp [hlt]) q3
      have S4 : Slots Y.X.K H4 M3 (L2.wipe s (own.map (·.2))) (wipeD σ (own.map (·.2))) := ((S1.s.ext x3).ext x4).wipe _
      -- behind the target
      have fin : ∀ s5 σ5, Slots Y.X.K H4 M3 s5 σ5 → L2.wipe s5 (own.map (·.2)) = L2.wipe s (own.map (·.2)) → (tt σ5 M3 fun b M4 => if b = true then te σ5 M4 fun x M5 => M5 D = some (.lst acc) ∧ acc.length < sizeLine ∧ I (j + 1) (acc ++ [x]) (mset M5 D (.lst (acc ++ [x]))) else I (j + 1) acc M4) →
          L2.wipe s5 (own.map (·.2)) = L2.wipe s (own.map (·.2)) ∧ tF s5 H4 fun b H5 => if b = true then eF s5 H5 fun y H6 => ∃ acc, H6 D = some (.lst acc) ∧ acc.length < sizeLine ∧ ∃ acc' M', Ext (upd H1 D (.lst [])) (mset M1 D (.lst [])) (upd H6 D (.lst (acc ++ [y]))) M' ∧ Dok Y.X.K (upd H6 D (.lst (acc ++ [y]))) M' ∧ I (j + 1) acc' M'
            else ∃ acc M', Ext (upd H1 D (.lst [])) (mset M1 D (.lst [])) H5 M' ∧ Dok Y.X.K H5 M' ∧ I (j + 1) acc M' := by
        intro s5 σ5 S5 hw5 q6
        refine ⟨hw5, fun s0 H0 C cl fp pins sh I5 => ?_⟩
        obtain ⟨Y', hX, hH0, hM0, _, ht, _⟩ := hblk s0 H0 C cl fp
        have hK : Y'.X.K = Y.X.K := by rw [hX]
        have Sd : Std Y' s5 H4 σ5 M3 := ⟨by rw [hH0, hM0]; exact ((S1.e.trans x3).trans x4), by rw [hK]; exact d4, by rw [hK]; exact S5⟩
        have z := ht.run s5 H4 σ5 M3 _ Sd q6 pins sh (by rw [hX]; exact I5)
        rw [hX] at z
        refine thn z fun b s6 ⟨H5, I6, M4, x5, d5, q7⟩ => ⟨H5, I6, ?_⟩
        have d5' : Dok Y.X.K H5 M4 := by have := d5; rw [hX] at this; exact this
        cases b with
        | false =>
          rw [if_neg Bool.false_ne_true] at q7
          exact iteF ⟨acc, M4, (x3.trans x4).trans x5, d5', q7⟩
        | true =>
          rw [if_pos rfl] at q7
          refine iteT fun s0 H0 C cl fp => ?_
          obtain ⟨Y2, hX2, hH2, hM2, _, _, he⟩ := hblk s0 H0 C cl fp
          have hK2 : Y2.X.K = Y.X.K := by rw [hX2]
          have Sd2 : Std Y2 s5 H5 σ5 M4 := ⟨by rw [hH2, hM2]; exact ((S1.e.trans x3).trans x4).trans x5, by rw [hK2]; exact d5', by rw [hK2]; exact S5.ext x5⟩
          have z2 := he.run s5 H5 σ5 M4 _ Sd2 q7
          rw [hX2] at z2
          refine semE_mono z2 fun y H6 ⟨w, M5, x6, d6, r6, mD5, hz, q8⟩ => ?_
          have d6' : Dok Y.X.K H6 M5 := by have := d6; rw [hX2] at this; exact this
          have r6' : Wv Y.X.K H6 M5 y w := by have := r6; rw [hX2] at this; exact this
          obtain ⟨xs, hx, rx⟩ := d6' _ _ mD5
          have nn : M5 D ≠ none := by rw [mD5]; exact fun z => by cases z
          have X7 : Ext H6 M5 (upd H6 D (.lst (xs ++ [y]))) (mset M5 D (.lst (acc ++ [w]))) := ext_mut (.inl nn)
          refine ⟨xs, hx, by rw [Paired.length rx]; exact hz, acc ++ [w], _, (((x3.trans x4).trans x5).trans x6).trans X7, ?_, q8⟩
          refine dok_mut (u := .lst (acc ++ [w])) d6' (.inl nn) fun e => ⟨xs ++ [y], upd_same, ?_⟩
          have app : ∀ {xs : List V} {ws : List W}, WvA Y.X.K H6 M5 xs ws → WvA Y.X.K H6 M5 (xs ++ [y]) (ws ++ [w]) := by
            intro xs ws h
            induction h with
            | nil => exact .cons r6' .nil
            | cons r t ih => exact .cons r ih
          exact WvA.ext e (app rx)
      cases T with
      | one jt =>
        have q5' : tt ((wipeD σ (own.map (·.2))).set jt (some ws[j])) M3 _ := q5
        exact fin _ _ (S4.set r4 jt) (by rw [wipe_wipe_set _ _ (hT jt (by simp [Tg.js])), wipe_idem]) q5'
      | many js =>
        unfold tgQ at q5
        simp only at q5
        split at q5
        · rename_i ds hd
          rw [hd] at r4
          obtain ⟨p, xs, rfl, h1, h2⟩ := r4.tup
          refine ⟨p, xs, rfl, h1.sq, by rw [h2.length]; exact q5.1, ?_⟩
          exact gNames_run (own.map (fun x => x.2)) (s0 := s) js xs ds _ _ _ (fun m hm => hT m hm) q5.1 h2 S4 (wipe_idem _ _) fun s5 S5 hw5 => fin s5 _ S5 hw5 q5.2
        · exact q5.elim
    · have hj' : j = ws.length := by omega
      subst hj'
      obtain ⟨ds, hds, qd⟩ := dataQ_get (done _ _ q3)
      subst hds
      refine .inl ⟨hstop _ (Nat.le_refl _), kR _ _ ⟨.d (.list ds), mdel M3 D, ((e.trans X1).trans x3).trans (ext_less mdel_less), dok_less d3 mdel_less, ?_, qd⟩⟩
      obtain ⟨xs, hx, rx⟩ := d3 _ _ mD3
      exact Fz.lst ⟨hx, mdel_same⟩ (FzA.ext (ext_less mdel_less) ds xs (FzA.of_wv rx))
theorem q_lc (F : Fm g i k Y) (i' : Si) (T : Tg) {elt tg iter : Expr} {ifs : List Expr} {scope : Scope} {own : List (Str × Nat)} {pos : Pos} {ti : TId} {tt : TTd} {te : TEd} (B : BlOk i i' scope own) (hT : ∀ j ∈ T.js, j ∈ own.map (·.2)) (hi : QI Y tg iter ti)
    (hb : ∀ Y' : Dx, Fm g i' k Y' → Y'.wd = noWd → PG Y'.X tg (gV Y'.X.K T) ∧ QTs Y' ifs tt ∧ QE Y' elt te) (hs : ∀ x, foldedSetIterable iter Y.X.env x = pure x := by intro _; rfl) :
    QE Y (.ListComp elt [⟨tg, iter, ifs, 0⟩] scope pos) (tLcD ti T tt te (own.map (·.2))) := by
  obtain ⟨tF, eF, h1, h2, h3, h4⟩ := lc_l2 F i' T B hT hi hb
  exact ⟨fun s H σ M Q S h => semE_of (pe_lc (own := own) (wi := semIt Y.X tg iter) (g := gV Y.X.K T) (tt := tF) (te := eF) F.calm (by rw [F.N]; exact F.nd) pi_sem (by rw [F.N, F.hsc]; exact blkOk_by B.b) h1 h2 h3 hs) (h4 s H σ M Q _ S h fun _ _ z => z)⟩
/-- name = [..] on one line, the name a local -/
theorem s_setlc (F : Fm g i k Y) (m : Nat) (i' : Si) (T : Tg) {y : Str} {py spos : Pos} {elt tg iter : Expr} {ifs : List Expr} {scope : Scope} {own : List (Str × Nat)} {pos : Pos} {ti : TId} {tt : TTd} {te : TEd} (B : BlOk i i' scope own) (hT : ∀ j ∈ T.js, j ∈ own.map (·.2)) (hi : QI Y tg iter ti)
    (hb : ∀ Y' : Dx, Fm g i' k Y' → Y'.wd = noWd → PG Y'.X tg (gV Y'.X.K T) ∧ QTs Y' ifs tt ∧ QE Y' elt te) (hs : ∀ x, foldedSetIterable iter Y.X.env x = pure x := by intro _; rfl) (hN : i.N[m]? = some y := by rfl) (hl : i.loc.contains m = true := by rfl)
    (hk : i.sc.kind = .function := by rfl) (hp : (py.line == pos.line) = true := by rfl) (hn : (scope.names.any fun (n, k) => n == y && (k == .local || k == .cell)) = false := by first | rfl | decide +kernel) :
    QS Y (.Assign [.Name y py] (.ListComp elt [⟨tg, iter, ifs, 0⟩] scope pos) spos) (tAsn (tLcD ti T tt te (own.map (·.2))) (gNam m)) := by
  obtain ⟨tF, eF, h1, h2, h3, h4⟩ := lc_l2 F i' T B hT hi hb
  have lk := F.loc m y hl hN
  refine ⟨fun s H σ M D S h => semS_of (ps_setLc (own := own) (wi := semIt Y.X tg iter) (g := gV Y.X.K T) (tt := tF) (te := eF) F.calm (by rw [F.N]; exact F.nd) (by rw [F.N]; exact hN) lk (sw_true (by rw [F.hsc]; exact hk) lk hp hn) pi_sem (by rw [F.N, F.hsc]; exact blkOk_by B.b) h1 h2 h3 hs) ?_⟩
  refine h4 s H σ M _ _ S h fun v H' z => ?_
  obtain ⟨w, M', e, d, r, q⟩ := z
  exact ⟨_, _, e, (S.go e d).set r m, q⟩
end
end Dl
set_option Elab.async false
set_option linter.all false
set_option maxRecDepth 100000
namespace Dl
open PySem PySem.Spec PyProof.Rows L2

/-! ### the law's own call -/
def spLaw : SpD := fun ws _ Q _ => ∃ ns : List Int, ws = [.scr (ns.map PyData.int)] ∧ ns.length ≤ 63 ∧ ∀ M', Q (.d (.bool true)) M'
theorem fza_ints {K : PySem.W.Frag} {H : Hp} {M : MH} : ∀ ns : List Int, FzA K H M (ns.map V.int) (ns.map PyData.int)
  | [] => .nil
  | n :: ns => .cons (.int n) (fza_ints ns)
theorem cx_false {P : Program} {w : World} {outer : List Env} {H : Hp} {s : Shared} {e : Value} {s' : Shared} (h : L2.CX P w outer H s (fun _ _ _ => False) e s') : False := by
  obtain ⟨_, _, _, _, _, _, _, _, _, _, _, _, z⟩ := h
  exact z
/-- from a heap in which the script alone is tracked, if at all -/
theorem law_from {P : Program} {w : World} {K : PySem.W.Frag} {mg mb : Str → Option Value} {k : Nat} {fa a : Addr} {fd : FuncData} {x : Str} {t : Shared} {vs : List Value} {ns : List Int}
    (F : ∀ base : Heap, K.In base → base.Ns mainGlobals mg → SysOk base → FnG ⟨P, w, K, mg, base⟩ k fa fd [x] spLaw) (hb : ∀ (s : Shared) (u : Value), BindsTo s fd ⟨[u], []⟩ [(x, u)]) (hr : Room k callerA)
    (KX : K.In t.heap) (hg : t.heap.Ns mainGlobals mg) (hbl : t.heap.Ns builtinsNs mb) (hbb : ∀ x : Str, x ≠ "__name__" → mb x = bootBuiltins x) (hlim : t.heap.NoLimit) (hsys : ∃ mm, t.heap.Ns sysModules mm) (hgen : t.gens = #[])
    (ha : t.heap.get? a = some { cls := .type "list", data := .seq vs.toArray }) (hl : ns.length ≤ 63)
    (H : Hp) (hS : FS K H (fun _ => none) a (ns.map V.int)) (hok : HOk P w H t.heap) (only : ∀ b u, H b = some u → b = a ∧ ∃ o xs, u = .frz o (.lst xs)) (apart : H a ≠ none → K.lookup a = none) :
    codeAny (model P w) callerA (.call (.ref fa) ⟨[.ref a], []⟩) (fun r s' => r = .ok (.ret (.bool true)) ∧ OldK t.heap s'.heap ∧ s'.os = t.os ∧ AllBare s'.gens) t := by
  have stays : ∀ b o, t.heap.get? b = some o → H b = none → (hidT t.heap H).get? b = some o := fun b o e n => hidT_get e n
  have dictFree : ∀ b o es n, t.heap.get? b = some o → o.data = .dict es n → H b = none := fun b o es n e d => by
    cases q : H b with
    | none => rfl
    | some u =>
      have hba := (only b u q).1
      rw [hba, ha] at e
      cases e
      cases d
  have nsStays : ∀ b m, t.heap.Ns b m → (hidT t.heap H).Ns b m := fun b m ⟨o, es, ep, e, d, r⟩ => ⟨o, es, ep, stays b o e (dictFree b o es ep e d), d, r⟩
  have inBase : K.In (hidT t.heap H) := fun b o e => stays b o (KX b o e) (by
    cases q : H b with
    | none => rfl
    | some u =>
      have hba := (only b u q).1
      rw [hba] at q e
      rw [apart (by rw [q]; exact fun z => by cases z)] at e
      cases e)
  have hmod : Mod K mg (hidT t.heap H) := ⟨inBase, nsStays _ _ hg, ⟨mb, nsStays _ _ hbl, hbb⟩, by
    obtain ⟨mc, z1, z2⟩ := hlim
    exact ⟨mc, nsStays _ _ z1, z2⟩⟩
  have hsy : SysOk (hidT t.heap H) := by
    obtain ⟨mm, z⟩ := hsys
    obtain ⟨o, es, ep, e, d, _⟩ := nsStays _ _ z
    exact ⟨o, es, ep, e, d⟩
  have env : Env0 P w K mg (hidT t.heap H) callerA [] t H := by
    refine ⟨rfl, hmod, fun b o e => of_hidT e, Nat.le_of_eq (hidT_size _ _), trivial, ?_, hok, AllBare.of_eq hgen⟩
    intro b hb
    have : b ∈ ([] : List Addr) := hb
    cases this
  have lifted : lift K spLaw [.ref a] H (fun v _ => v = .bl true) (fun _ _ _ => False) := by
    refine ⟨[.scr (ns.map PyData.int)], fun _ => none, fun u _ => u = .d (.bool true), fun _ _ _ => False, fun b o e => (by cases e), .cons ⟨a, _, rfl, hS, fza_ints ns⟩ .nil, ⟨ns, rfl, hl, fun _ => rfl⟩, ?_, fun _ _ _ _ _ _ _ _ z => z⟩
    intro v H' u M' _ _ r e
    subst e
    exact r.bool
  have run := (F _ inBase (nsStays _ _ hg) hsy).run callerA [] t H ⟨[.ref a], []⟩ [.ref a] [.ref a] _ _ rfl hr env (hb t (.ref a)) (.cons rfl .nil) lifted
  refine codeAny_mono run fun r s' h => ?_
  cases r with
  | error e => exact (cx_false (show L2.CX P w [] H t _ e s' from h)).elim
  | ok fl =>
    cases fl with
    | ret u =>
      obtain ⟨v, H', os, bare, un, hok', rv, hv⟩ := h
      have hv' : v = .bl true := hv
      rw [hv'] at rv
      have hu : u = Value.bool true := rv
      refine ⟨by rw [hu], ?_, os, bare⟩
      refine OldK.of_keep fun b o e => ?_
      cases q : H b with
      | none =>
        refine un.keep b o e q (fun z => ?_) (by simp)
        have : b ∈ ([] : List Addr) := z
        cases this
      | some u' =>
        obtain ⟨_, ob, xs, hu'⟩ := only b u' q
        rw [hu'] at q
        have e1 := (hok b _ q).1
        have e2 := (hok' b _ (un.frzs b ob _ q)).1
        rw [e] at e1
        rw [e2, ← e1]
    | next => exact (show False from h).elim
    | brk => exact (show False from h).elim
    | cont => exact (show False from h).elim

theorem law_walk {l : PySem.W.OpenLaw} {k : Nat} {q : Program} {loose : List Str} {XP : (Str → Option Value) → Heap → Prop} {YP : World → Heap → Prop} {d : DefRec} {K : Params → PySem.W.Frag} {x : Str}
    (hn : l.most = some 63) (hdf : d.params.defaults = []) (hr : Room k callerA) (hq : importsNone q = true) (hY : ∀ (w : World) (h : Heap), YP w h → (K w.params).In h)
    (F : ∀ (w : World) (mg : Str → Option Value) (fa : Addr) (h : Heap), (K w.params).In h → h.Ns mainGlobals mg → mg d.name = some (.ref fa) →
      ∃ fd : FuncData, (∀ (s : Shared) (u : Value), BindsTo s fd ⟨[u], []⟩ [(x, u)]) ∧ ∀ base : Heap, (K w.params).In base → base.Ns mainGlobals mg → SysOk base → FnG ⟨l.prog, w, K w.params, mg, base⟩ k fa fd [x] spLaw) :
    PySem.W.WalkO q loose XP YP l.row.toRowW d [] (fun f vs => PySem.call f vs) := by
  refine Att.attach_call hn hdf ?_
  intro w s₀ t mg mb fa o pm cd doc a vs ns G YY ho hd hcd hmg hobj hints hlen hgen
  have KX := hY w _ YY
  obtain ⟨fd, hb, hF⟩ := F w mg fa _ KX G.T.g hmg
  have rv := vals_ints hints
  have hsys : ∃ mm, t.heap.Ns sysModules mm := by
    have z := G.T.seer hq
    obtain ⟨mm, z1, _⟩ := z.mods
    exact ⟨mm, z1⟩
  have lenV : vs.length = ns.length := by rw [← rv.length, List.length_map]
  have small : ns.length ≤ sizeLine := by rw [sizeLine_eq]; omega
  have core := fun H => law_from (mb := mb) (vs := vs) (ns := ns) (a := a) hF hb hr KX G.T.g G.T.b G.T.builtins G.T.nolimit hsys hgen hobj hlen H
  cases hk : (K w.params).lookup a with
  | some ob =>
    have e := KX a ob hk
    rw [hobj] at e
    cases e
    refine core (fun _ => none) (Or.inr (Or.inr ⟨_, vs.toArray, _, hk, rfl, rfl, rfl, ?_, ?_⟩)) (fun b u z => by cases z) (fun b u z => by cases z) (fun z => absurd rfl z)
    · rw [List.size_toArray, lenV]; exact small
    · simpa using rv
  | none =>
    refine core (fun b => if b = a then some (.frz { cls := .type "list", data := .seq vs.toArray } (.lst (ns.map V.int))) else none) (Or.inl ⟨Or.inr ⟨_, if_pos rfl⟩, rfl⟩) ?_ ?_ (fun _ => hk)
    · intro b u z
      try dsimp only at z
      by_cases e : b = a
      · subst e
        rw [if_pos rfl] at z
        cases z
        exact ⟨hobj, ⟨by rw [List.length_map]; exact small, vs, _, rv, hobj⟩⟩
      · rw [if_neg e] at z
        cases z
    · intro b u z
      try dsimp only at z
      by_cases e : b = a
      · subst e
        rw [if_pos rfl] at z
        cases z
        exact ⟨rfl, _, _, rfl⟩
      · rw [if_neg e] at z
        cases z
end Dl
set_option Elab.async false
set_option linter.all false
set_option maxRecDepth 100000
namespace Dl
open PySem PySem.Spec PyProof.Rows L2

/-! ### the text's facts -/
structure Pl (g : Gc) (x : Str) (st : Stmt) : Prop where
  ex : ∃ f fd, Fun g.K x x st f fd ∧ g.mg x = some (.ref f)
structure Cst (g : Gc) (x : Str) (d : PyData) : Prop where
  ex : ∃ v u, g.mg x = some u ∧ RelV v u ∧ ∀ H M, Fz g.K H M v d
theorem df_of {g : Gc} {i : Si} {k : Nat} {x : Str} {st : Stmt} {ps : List Str} {sp : SpD} (P : Pl g x st) (hsy : SysOk g.base) (Sc : FnScope i.N ps (defScope st)) (ok : ScOk i (defScope st))
    (hb : ∀ (kV doc pm : Value) (an : Option Addr) (cdv ct : Value) (us : List Value), us.length = ps.length → bindArgs (PySem.W.fnOf x x (defArgs st) (defBody st) (defScope st) .none kV doc pm an cdv ct) ⟨us, []⟩ = pure (ps.zip us))
    (len : ∀ ws M Q E, sp ws M Q E → ws.length = ps.length)
    (body : ∀ (Y : Dx) (ws : List W) (M : MH) (Q : W → MH → Prop) (E : XD), Fm g i k Y → Y.wd = (fun cls fs _ M' => E cls fs M') → sp ws M Q E → ∃ t, QSs Y (defBody st) t ∧ t { nx := fun _ M' => Q (.d .none) M', rt := Q } (startD i.N ws) M) : Df g (k + 1) x ps sp := by
  obtain ⟨f, fd, F, m⟩ := P.ex
  exact ⟨f, fd, fng_of F Sc ok hsy len body, m, F.kp, F.binds hb⟩
section
variable {g : Gc} {i : Si} {k : Nat} {Y : Dx}
theorem q_cst (F : Fm g i k Y) (j : Nat) {x : Str} {pos : Pos} {d : PyData} (C : Cst g x d) (hj : i.gls[j]? = some x := by rfl) : QE Y (.Name x pos) (tK d) := by
  obtain ⟨v, u, h1, h2, h3⟩ := C.ex
  exact q_glob F j h1 h2 h3 hj
theorem pgN (F : Fm g i k Y) (j : Nat) {x : Str} {pos : Pos} (hN : i.N[j]? = some x := by rfl) (hl : i.loc.contains j = true := by rfl) : PG Y.X (.Name x pos) (gV Y.X.K (.one j)) :=
  pg_name (i := j) (by rw [F.N]; exact F.nd) (by rw [F.N]; exact hN) (.inl (F.loc j x hl hN)) (.inr (F.loc j x hl hN))
theorem pgNc (F : Fm g i k Y) (j : Nat) {x : Str} {pos : Pos} (hN : i.N[j]? = some x := by rfl) (hl : i.cel.contains j = true := by rfl) : PG Y.X (.Name x pos) (gV Y.X.K (.one j)) :=
  pg_name (i := j) (by rw [F.N]; exact F.nd) (by rw [F.N]; exact hN) (.inr (F.cel j x hl hN).1) (.inl (F.cel j x hl hN).2)
theorem pgsN0 {Y : Dx} : PGs Y.X [] (gNames []) := pgs_nil
theorem pgsN (F : Fm g i k Y) (j : Nat) {x : Str} {pos : Pos} {es : List Expr} {js : List Nat} (h : PGs Y.X es (gNames js)) (hN : i.N[j]? = some x := by rfl) (hl : i.loc.contains j = true := by rfl)
    (hs : (assignEach (.Name x pos :: es) Y.X.env).map (·.2) = assign (.Name x pos) Y.X.env :: (assignEach es Y.X.env).map (·.2) := by rfl) : PGs Y.X (.Name x pos :: es) (gNames (j :: js)) := pgs_cons (pgN F j hN hl) h hs
theorem pgT (F : Fm g i k Y) {es : List Expr} {js : List Nat} {kk : Nat} {pos : Pos} (h : PGs Y.X es (gNames js)) (hn : (assignEach es Y.X.env).length = js.length := by rfl) (hst : (assignEach es Y.X.env).findIdx? (·.1) = none := by rfl) : PG Y.X (.Tuple es kk pos) (gV Y.X.K (.many js)) := pg_tup F.calm h hn hst
/-- -x -/
def tNeg (t : TEd) : TEd := fun σ M Q => t σ M fun w M1 => match w with | .d (.int n) => Q (.d (.int (-n))) M1 | _ => False
theorem q_neg {e : Expr} {t : TEd} {pos : Pos} (he : QE Y e t) : QE Y (.UnaryOp .USub e pos) (tNeg t) := by
  refine ⟨fun s H σ M Q S h => semE_of (pe_un un_neg pe_sem) (he.then_ S h fun v H1 w M1 e d r q => ?_)⟩
  split at q
  · exact ⟨_, r.int, ((S.go e d).here (wInt _) q).trans e⟩
  · exact q.elim
/-- {} as a datum -/
def tDct0 : TEd := fun _ M Q => Q (.d (.dict [])) M
theorem q_dct0 {pos : Pos} : QE Y (.Dict [] [] pos) tDct0 := by
  refine ⟨fun s H σ M Q S h => semE_of pe_dnewK fun p n => ?_⟩
  exact std_new S n (fun e m => Fz.dK upd_same m .nil) h
/-- a fresh list that is kept as a datum -/
def tFrz (t : TEd) : TEd := fun σ M Q => t σ M fun w M1 => match w with
  | .ref p => ∃ ws, M1 p = some (.lst ws) ∧ dataQ (fun ds M2 => Q (.d (.list ds)) M2) ws (mdel M1 p)
  | w => Q w M1
theorem q_frz {e : Expr} {t : TEd} (he : QE Y e t) : QE Y e (tFrz t) := by
  refine ⟨fun s H σ M Q S h => he.then_ S h fun v H1 w M1 e d r q => ?_⟩
  cases w with
  | d x => exact ⟨_, M1, e, d, r, q⟩
  | scr xs => exact ⟨_, M1, e, d, r, q⟩
  | ref p =>
    obtain ⟨ws, hm, q1⟩ := q
    obtain ⟨ds, hds, q2⟩ := dataQ_get q1
    subst hds
    obtain rfl := (show v = _ from r)
    obtain ⟨xs, h1, h2⟩ := d _ _ hm
    exact ⟨.d (.list ds), mdel M1 p, e.trans (ext_less mdel_less), dok_less d mdel_less, Fz.lst ⟨h1, mdel_same⟩ (FzA.ext (ext_less mdel_less) ds xs (FzA.of_wv h2)), q2⟩
end

/-! ### comprehensions, told in short -/
/-- all that may change in M is so in M' -/
def Keep (M M' : MH) : Prop := ∀ b o, M b = some o → M' b = some o
theorem Keep.refl (M : MH) : Keep M M := fun _ _ h => h
theorem Keep.trans {M M1 M2 : MH} (a : Keep M M1) (b : Keep M1 M2) : Keep M M2 := fun c o h => b c o (a c o h)
theorem keep_new {M : MH} {p : Addr} {o : O} (h : M p = none) : Keep M (mset M p o) := fun b u e => by
  rw [mset_ne (fun z => by rw [z, h] at e; cases e)]
  exact e
theorem mdel_mset {M : MH} {p : Addr} {o : O} (h : M p = none) : mdel (mset M p o) p = M := by
  funext b
  by_cases e : b = p
  · subst e
    rw [mdel_same, h]
  · rw [mdel_ne e, mset_ne e]
theorem mset_mset {M : MH} {p : Addr} {o u : O} : mset (mset M p o) p u = mset M p u := by
  funext b
  by_cases e : b = p
  · subst e
    rw [mset_same, mset_same]
  · rw [mset_ne e, mset_ne e, mset_ne e]
theorem getElem?_take_succ {α : Type} {xs : List α} {j : Nat} {x : α} (h : xs[j]? = some x) : xs.take (j + 1) = xs.take j ++ [x] := by
  rw [List.take_add_one, h]
  rfl
/-- elements that are plain data of the items -/
theorem lcP {ws : List W} {kc : MH → Prop} {M1 : MH} {σ : SD} {vs : List Nat} {T : Tg} {tt : TTd} {te : TEd} {R0 : List PyData → MH → Prop} (f : W → Bool) (h : W → PyData) (hz : ws.length ≤ 16000000) (hkc : ∀ D acc, M1 D = none → kc (mset M1 D (.lst acc)))
    (he : ∀ w ∈ ws, tgQ T w (wipeD σ vs) fun σ2 => ∀ M2, Keep M1 M2 → (∀ R : Bool → MH → Prop, R (f w) M2 → tt σ2 M2 R) ∧ (f w = true → ∀ R : W → MH → Prop, R (.d (h w)) M2 → te σ2 M2 R)) (q : R0 ((ws.filter f).map h) M1) :
    ∀ D, M1 D = none → ∃ I : Nat → List W → MH → Prop, I 0 [] (mset M1 D (.lst [])) ∧ (∀ j acc M2, I j acc M2 → kc M2 ∧ M2 D = some (.lst acc)) ∧
      (∀ j w acc M2, ws[j]? = some w → I j acc M2 → tgQ T w (wipeD σ vs) fun σ2 => tt σ2 M2 fun b M4 => if b = true then te σ2 M4 fun x M5 => M5 D = some (.lst acc) ∧ acc.length < sizeLine ∧ I (j + 1) (acc ++ [x]) (mset M5 D (.lst (acc ++ [x]))) else I (j + 1) acc M4) ∧
      (∀ acc M2, I ws.length acc M2 → dataQ R0 acc (mdel M2 D)) := by
  intro D nD
  refine ⟨fun j acc M2 => M2 = mset M1 D (.lst acc) ∧ acc = (((ws.take j).filter f).map h).map W.d, ⟨rfl, rfl⟩, ?_, ?_, ?_⟩
  · rintro j acc M2 ⟨rfl, _⟩
    exact ⟨hkc D acc nD, mset_same⟩
  · rintro j w acc M2 hj ⟨rfl, hacc⟩
    have hw := he w (List.mem_of_getElem? hj)
    have len : acc.length < sizeLine := by
      rw [hacc, List.length_map, List.length_map, sizeLine_eq]
      have h1 := List.length_filter_le f (ws.take j)
      have h2 : (ws.take j).length ≤ ws.length := by rw [List.length_take]; omega
      omega
    have go : ∀ σ2, (∀ M2, Keep M1 M2 → (∀ R : Bool → MH → Prop, R (f w) M2 → tt σ2 M2 R) ∧ (f w = true → ∀ R : W → MH → Prop, R (.d (h w)) M2 → te σ2 M2 R)) →
        tt σ2 (mset M1 D (.lst acc)) fun b M4 => if b = true then te σ2 M4 fun x M5 => M5 D = some (.lst acc) ∧ acc.length < sizeLine ∧ (mset M5 D (.lst (acc ++ [x])) = mset M1 D (.lst (acc ++ [x])) ∧ acc ++ [x] = (((ws.take (j + 1)).filter f).map h).map W.d) else (M4 = mset M1 D (.lst acc) ∧ acc = (((ws.take (j + 1)).filter f).map h).map W.d) := by
      intro σ2 z
      obtain ⟨z1, z2⟩ := z _ (keep_new nD)
      refine z1 _ ?_
      cases hf : f w with
      | true =>
        refine iteT (z2 hf _ ⟨mset_same, len, mset_mset, ?_⟩)
        rw [getElem?_take_succ hj, List.filter_append, List.map_append, List.map_append, ← hacc]
        simp [hf]
      | false =>
        refine iteF ⟨rfl, ?_⟩
        rw [getElem?_take_succ hj, List.filter_append, List.map_append, List.map_append, ← hacc]
        simp [hf]
    cases T with
    | one jt => exact go _ hw
    | many js =>
      unfold tgQ at hw ⊢
      simp only at hw ⊢
      split at hw
      · exact ⟨hw.1, go _ hw.2⟩
      · exact hw.elim
  · rintro acc M2 ⟨rfl, hacc⟩
    rw [List.take_length] at hacc
    rw [hacc, mdel_mset nD]
    unfold dataQ
    rw [allD_map]
    exact q
/-- .. told by an equation -/
theorem lcPe {ws : List W} {kc : MH → Prop} {M1 : MH} {σ : SD} {vs : List Nat} {T : Tg} {tt : TTd} {te : TEd} {R0 : List PyData → MH → Prop} (f : W → Bool) (h : W → PyData) (ds : List PyData) (e : (ws.filter f).map h = ds) (hz : ws.length ≤ 16000000) (hkc : ∀ D acc, M1 D = none → kc (mset M1 D (.lst acc)))
    (he : ∀ w ∈ ws, tgQ T w (wipeD σ vs) fun σ2 => ∀ M2, Keep M1 M2 → (∀ R : Bool → MH → Prop, R (f w) M2 → tt σ2 M2 R) ∧ (f w = true → ∀ R : W → MH → Prop, R (.d (h w)) M2 → te σ2 M2 R)) (q : R0 ds M1) :
    ∀ D, M1 D = none → ∃ I : Nat → List W → MH → Prop, I 0 [] (mset M1 D (.lst [])) ∧ (∀ j acc M2, I j acc M2 → kc M2 ∧ M2 D = some (.lst acc)) ∧
      (∀ j w acc M2, ws[j]? = some w → I j acc M2 → tgQ T w (wipeD σ vs) fun σ2 => tt σ2 M2 fun b M4 => if b = true then te σ2 M4 fun x M5 => M5 D = some (.lst acc) ∧ acc.length < sizeLine ∧ I (j + 1) (acc ++ [x]) (mset M5 D (.lst (acc ++ [x]))) else I (j + 1) acc M4) ∧
      (∀ acc M2, I ws.length acc M2 → dataQ R0 acc (mdel M2 D)) := by
  subst e
  exact lcP f h hz hkc he q
theorem filter_all {α : Type} (l : List α) : l.filter (fun _ => true) = l := by induction l with | nil => rfl | cons x l ih => simp
/-- .. all of them -/
theorem lcA {ws : List W} {kc : MH → Prop} {M1 : MH} {σ : SD} {vs : List Nat} {T : Tg} {te : TEd} {R0 : List PyData → MH → Prop} (h : W → PyData) (hz : ws.length ≤ 16000000) (hkc : ∀ D acc, M1 D = none → kc (mset M1 D (.lst acc)))
    (he : ∀ w ∈ ws, tgQ T w (wipeD σ vs) fun σ2 => ∀ M2, Keep M1 M2 → ∀ R : W → MH → Prop, R (.d (h w)) M2 → te σ2 M2 R) (q : R0 (ws.map h) M1) :
    ∀ D, M1 D = none → ∃ I : Nat → List W → MH → Prop, I 0 [] (mset M1 D (.lst [])) ∧ (∀ j acc M2, I j acc M2 → kc M2 ∧ M2 D = some (.lst acc)) ∧
      (∀ j w acc M2, ws[j]? = some w → I j acc M2 → tgQ T w (wipeD σ vs) fun σ2 => tAll σ2 M2 fun b M4 => if b = true then te σ2 M4 fun x M5 => M5 D = some (.lst acc) ∧ acc.length < sizeLine ∧ I (j + 1) (acc ++ [x]) (mset M5 D (.lst (acc ++ [x]))) else I (j + 1) acc M4) ∧
      (∀ acc M2, I ws.length acc M2 → dataQ R0 acc (mdel M2 D)) := by
  refine lcP (fun _ => true) h hz hkc (fun w hw => ?_) (by rw [filter_all]; exact q)
  have z := he w hw
  cases T with
  | one jt => exact fun M2 k => ⟨fun R r => r, fun _ => z M2 k⟩
  | many js =>
    unfold tgQ at z ⊢
    simp only at z ⊢
    split at z
    · exact ⟨z.1, fun M2 k => ⟨fun R r => r, fun _ => z.2 M2 k⟩⟩
    · exact z.elim
/-- .. told by an equation -/
theorem lcAe {ws : List W} {kc : MH → Prop} {M1 : MH} {σ : SD} {vs : List Nat} {T : Tg} {te : TEd} {R0 : List PyData → MH → Prop} (h : W → PyData) (ds : List PyData) (e : ws.map h = ds) (hz : ws.length ≤ 16000000) (hkc : ∀ D acc, M1 D = none → kc (mset M1 D (.lst acc)))
    (he : ∀ w ∈ ws, tgQ T w (wipeD σ vs) fun σ2 => ∀ M2, Keep M1 M2 → ∀ R : W → MH → Prop, R (.d (h w)) M2 → te σ2 M2 R) (q : R0 ds M1) :
    ∀ D, M1 D = none → ∃ I : Nat → List W → MH → Prop, I 0 [] (mset M1 D (.lst [])) ∧ (∀ j acc M2, I j acc M2 → kc M2 ∧ M2 D = some (.lst acc)) ∧
      (∀ j w acc M2, ws[j]? = some w → I j acc M2 → tgQ T w (wipeD σ vs) fun σ2 => tAll σ2 M2 fun b M4 => if b = true then te σ2 M4 fun x M5 => M5 D = some (.lst acc) ∧ acc.length < sizeLine ∧ I (j + 1) (acc ++ [x]) (mset M5 D (.lst (acc ++ [x]))) else I (j + 1) acc M4) ∧
      (∀ acc M2, I ws.length acc M2 → dataQ R0 acc (mdel M2 D)) := by
  subst e
  exact lcA h hz hkc he q
end Dl
set_option Elab.async false
set_option linter.all false
set_option maxRecDepth 100000
namespace Dl
open PySem PySem.Spec PyProof.Rows L2

/-! ### ways -/
theorem ifD {c A B : Prop} [Decidable c] (h1 : c → A) (h2 : ¬ c → B) : if decide c = true then A else B := by
  by_cases h : c
  · rw [if_pos (decide_eq_true h)]; exact h1 h
  · rw [if_neg (by rw [decide_eq_false h]; exact Bool.false_ne_true)]; exact h2 h
theorem ifB {b : Bool} {A B : Prop} (h1 : b = true → A) (h2 : b = false → B) : if b = true then A else B := by
  cases b
  · exact iteF (h2 rfl)
  · exact iteT (h1 rfl)

/-! ### sizes of numbers -/
theorem bits_le {x : Int} {n : Nat} (h : x.natAbs < 2 ^ n) : Builtin.Int.intBits x ≤ n := by
  by_cases hx : x = 0
  · subst hx
    have : Builtin.Int.intBits 0 = 0 := by decide
    omega
  · have h0 : x.natAbs ≠ 0 := by omega
    have := (Nat.log2_lt h0).mpr h
    unfold Builtin.Int.intBits
    split <;> omega
theorem powOk_of {x : Int} {n : Nat} {k : Int} (h : x.natAbs < 2 ^ n) (h0 : 0 ≤ k) (hk : n * k.toNat ≤ 2 ^ 27) : powOk x k := by
  refine ⟨h0, ?_⟩
  have h1 := bits_le h
  have h2 : Builtin.Int.intBits x * k.toNat ≤ n * k.toNat := Nat.mul_le_mul_right _ h1
  have h3 : ((Builtin.Int.intBits x : Nat) : Int) * k = ((Builtin.Int.intBits x * k.toNat : Nat) : Int) := by
    rw [Int.natCast_mul, Int.toNat_of_nonneg h0]
  rw [h3]
  have : Builtin.Int.intBits x * k.toNat ≤ 2 ^ 27 := Nat.le_trans h2 hk
  exact_mod_cast this
theorem log2_lt {x : Int} {n : Nat} (h0 : 0 < n) (h : x.natAbs < 2 ^ n) : x.natAbs.log2 < n := PySem.Flt.log2_lt_of h0 h
theorem mulOk_of {x y : Int} {n m : Nat} (hn : 0 < n) (hm : 0 < m) (hx : x.natAbs < 2 ^ n) (hy : y.natAbs < 2 ^ m) (h : n + m ≤ 1000000) : mulOk x y := by
  have a := log2_lt hn hx
  have b := log2_lt hm hy
  unfold mulOk
  omega
theorem divOk_of {x y : Int} {n : Nat} (h : y ≠ 0) (hn : 0 < n) (hy : y.natAbs < 2 ^ n) (h9 : n ≤ 9000) : divOk x y := ⟨h, Nat.lt_of_lt_of_le (log2_lt hn hy) h9⟩
theorem fmod_pos {x y : Int} (h : 0 < y) : x.fmod y = x % y := Int.fmod_eq_emod_of_nonneg x (by omega)
theorem fdiv_pos {x y : Int} (h : 0 < y) : x.fdiv y = x / y := Int.fdiv_eq_ediv_of_nonneg x (by omega)

/-! ### the laws' pot: a list of three numbers -/
def Pot (a : Addr) (n : Nat) (M : MH) : Prop := ∃ x y z : Int, M a = some (.lst [.d (.int x), .d (.int y), .d (.int z)]) ∧ 0 ≤ x ∧ x.natAbs < 2 ^ 2000 ∧ 0 ≤ y ∧ y.natAbs < 2 ^ 61 ∧ 0 ≤ z ∧ z ≤ n
def Oth (a : Addr) (M M' : MH) : Prop := ∀ b o, b ≠ a → M b = some o → M' b = some o
theorem Oth.refl (a : Addr) (M : MH) : Oth a M M := fun _ _ _ h => h
theorem Oth.trans {a : Addr} {M M1 M2 : MH} (h : Oth a M M1) (k : Oth a M1 M2) : Oth a M M2 := fun b o n e => k b o n (h b o n e)
theorem oth_set {a : Addr} {M : MH} {o : O} : Oth a M (mset M a o) := fun b u n e => by rw [mset_ne n]; exact e
theorem Pot.mono {a : Addr} {n m : Nat} {M : MH} (h : Pot a n M) (k : n ≤ m) : Pot a m M := by
  obtain ⟨x, y, z, h1, h2, h3, h4, h5, h6, h7⟩ := h
  exact ⟨x, y, z, h1, h2, h3, h4, h5, h6, by omega⟩
theorem Pot.there {a : Addr} {n : Nat} {M : MH} (h : Pot a n M) : M a ≠ none := by
  obtain ⟨x, y, z, h1, _⟩ := h
  rw [h1]
  exact fun z => by cases z
/-- as many draws as there may be -/
def lots : Nat := 2 ^ 30
/-- a draw below m -/
def spTake : SpD := fun ws M Q _ => ∃ (a : Addr) (n : Nat) (m : Int), ws = [.ref a, .d (.int m)] ∧ 1 ≤ m ∧ m.natAbs < 2 ^ 2000 ∧ n < lots ∧ Pot a n M ∧ ∀ r M', 0 ≤ r → r < m → Pot a (n + 1) M' → Oth a M M' → Q (.d (.int r)) M'
theorem spTake_len : ∀ ws M Q E, spTake ws M Q E → ws.length = 2 := by rintro _ _ _ _ ⟨a, n, m, rfl, _⟩; rfl
/-- a pot made -/
def spPot : SpD := fun ws M Q _ => ∃ (ns : List Int) (k : Int), ws = [.scr (ns.map PyData.int), .d (.int k)] ∧ 0 ≤ k ∧ k < 2 ^ 20 ∧ ∀ p M', M p = none → Pot p 0 M' → Oth p M M' → Q (.ref p) M'
theorem spPot_len : ∀ ws M Q E, spPot ws M Q E → ws.length = 2 := by rintro _ _ _ _ ⟨a, n, rfl, _⟩; rfl
/-- something drawn: from the pot at a and plain data, by at most c draws -/
def spDraw (c : Nat) (args : List W → Addr → Prop) (P : List W → PyData → Prop) : SpD := fun ws M Q _ => ∃ (a : Addr) (n : Nat), args ws a ∧ n + c ≤ lots ∧ Pot a n M ∧ ∀ x M', P ws x → Pot a (n + c) M' → Oth a M M' → Q (.d x) M'
theorem at0 {α : Type} {x : α} {l : List α} : atI (x :: l) 0 = some x := by
  have := atI_nat (xs := x :: l) (j := 0) (v := x) rfl
  simpa using this
theorem at1 {α : Type} {x y : α} {l : List α} : atI (x :: y :: l) 1 = some y := by
  have := atI_nat (xs := x :: y :: l) (j := 1) (v := y) rfl
  simpa using this
theorem at2 {α : Type} {x y z : α} {l : List α} : atI (x :: y :: z :: l) 2 = some z := by
  have := atI_nat (xs := x :: y :: z :: l) (j := 2) (v := z) rfl
  simpa using this
theorem atI_mem {α : Type} {xs : List α} {r : Int} (h0 : 0 ≤ r) (h : r < xs.length) : ∃ d, atI xs r = some d ∧ d ∈ xs := by
  obtain ⟨n, rfl⟩ := Int.eq_ofNat_of_zero_le h0
  have hn : n < xs.length := by omega
  exact ⟨xs[n], atI_nat (by simp [hn]), by simp⟩
end Dl
set_option Elab.async false
set_option linter.all false
set_option maxRecDepth 100000
namespace Dl
open PySem PySem.Spec PyProof.Rows L2

theorem fm_lo {x m : Int} (h : 0 < m) : 0 ≤ x.fmod m := by rw [fmod_pos h]; exact Int.emod_nonneg _ (by omega)
theorem fm_hi {x m : Int} (h : 0 < m) : x.fmod m < m := by rw [fmod_pos h]; exact Int.emod_lt_of_pos _ h
theorem fm_bits {x m : Int} {n : Nat} (h : 0 < m) (hm : m.natAbs ≤ 2 ^ n) : (x.fmod m).natAbs < 2 ^ n := by
  have a := fm_lo (x := x) h
  have b := fm_hi (x := x) h
  generalize 2 ^ n = N at hm ⊢
  omega
theorem nat_lt_of {x : Int} {n m : Nat} (h : x.natAbs < 2 ^ n) (k : n ≤ m) : x.natAbs < 2 ^ m := Nat.lt_of_lt_of_le h (Nat.pow_le_pow_right (by decide) k)
def bigM : Int := ((10 : Int) ^ (60 : Int).toNat) ^ (10 : Int).toNat
theorem bigM_pos : 0 < bigM := by decide +kernel
theorem bigM_bits : bigM.natAbs ≤ 2 ^ 2000 := by decide +kernel
/-- what the laws' pot asks of its cell -/
theorem pot_cell (x : Int) : powOk 10 60 ∧ powOk ((10 : Int) ^ (60 : Int).toNat) 10 ∧ divOk (x.natAbs : Int) bigM ∧ 0 ≤ (x.natAbs : Int).fmod bigM ∧ ((x.natAbs : Int).fmod bigM).natAbs < 2 ^ 2000 :=
  ⟨powOk_of (n := 4) (by decide) (by decide) (by decide), powOk_of (n := 200) (by decide +kernel) (by decide) (by decide), divOk_of (n := 2001) (by decide +kernel) (by decide) (by decide +kernel) (by decide), fm_lo bigM_pos, fm_bits bigM_pos bigM_bits⟩
/-- what it asks to be put together, and that it is a pot -/
theorem pot_made {c k : Int} {b : Bool} (h0 : 0 ≤ c) (h1 : c.natAbs < 2 ^ 2000) (k0 : 0 ≤ k) (k1 : k < 2 ^ 20) : powOk 10 18 ∧ mulOk c (if b = true then 1 else 0) ∧ divOk c 2147483629 ∧ mulOk 7919 k ∧ powOk (c.fmod 2147483629 + 7919 * k + 1) 5 ∧ divOk ((c.fmod 2147483629 + 7919 * k + 1) ^ (5 : Int).toNat) 2305843009213693951 ∧
    ∀ (a : Addr) (M : MH), Pot a 0 (mset M a (.lst [.d (.int (c * (if b = true then 1 else 0))), .d (.int (((c.fmod 2147483629 + 7919 * k + 1) ^ (5 : Int).toNat).fmod 2305843009213693951)), .d (.int 0)])) := by
  have d1 := fm_lo (x := c) (m := 2147483629) (by decide)
  have d2 := fm_hi (x := c) (m := 2147483629) (by decide)
  have e20 : (2 : Int) ^ 20 = 1048576 := by decide
  rw [e20] at k1
  have e34 : (2 : Nat) ^ 34 = 17179869184 := by decide
  refine ⟨powOk_of (n := 4) (by decide) (by decide) (by decide), mulOk_of (n := 2000) (m := 1) (by decide) (by decide) h1 (by cases b <;> decide) (by decide), divOk_of (n := 31) (by decide) (by decide) (by decide) (by decide), mulOk_of (n := 13) (m := 20) (by decide) (by decide) (by decide) (by rw [show (2 : Nat) ^ 20 = 1048576 by decide]; omega) (by decide), powOk_of (n := 34) (by rw [e34]; omega) (by decide) (by decide), divOk_of (n := 61) (by decide) (by decide) (by decide) (by decide), fun a M => ⟨_, _, 0, mset_same, ?_, ?_, fm_lo (by decide), fm_bits (by decide) (by decide), by decide, by decide⟩⟩
  · cases b
    · rw [if_neg Bool.false_ne_true, Int.mul_zero]
      decide
    · rw [if_pos rfl, Int.mul_one]
      exact h0
  · cases b
    · rw [if_neg Bool.false_ne_true, Int.mul_zero]
      exact Nat.two_pow_pos _
    · rw [if_pos rfl, Int.mul_one]
      exact h1
/-- a draw from a pot that has something -/
theorem take_full {x m : Int} (h : 0 < x) (hx : x.natAbs < 2 ^ 2000) (h1 : 1 ≤ m) (hm : m.natAbs < 2 ^ 2000) : divOk x m ∧ 0 ≤ x.fmod m ∧ x.fmod m < m ∧ 0 ≤ x.fdiv m ∧ (x.fdiv m).natAbs < 2 ^ 2000 := by
  refine ⟨divOk_of (n := 2000) (by omega) (by decide) hm (by decide), fm_lo (by omega), fm_hi (by omega), ?_, ?_⟩
  · rw [fdiv_pos (by omega)]
    exact Int.ediv_nonneg (by omega) (by omega)
  · rw [fdiv_pos (by omega)]
    have a : 0 ≤ x / m := Int.ediv_nonneg (by omega) (by omega)
    have b : x / m ≤ x := Int.ediv_le_self m (by omega)
    generalize 2 ^ 2000 = N at hx ⊢
    omega
/-- a draw from a pot that has nothing more -/
def tk1 (y z : Int) : Int := ((y + 104729 * z) ^ (3 : Int).toNat).fmod 2305843009213693921
def tk2 (y z : Int) : Int := ((tk1 y z + y.fmod 65537 + 31 * z) ^ (5 : Int).toNat).fmod 2305843009213693907
theorem take_none {y z m : Int} (hy0 : 0 ≤ y) (hy : y.natAbs < 2 ^ 61) (hz0 : 0 ≤ z) (hz : z ≤ lots) (h1 : 1 ≤ m) (hm : m.natAbs < 2 ^ 2000) :
    mulOk 104729 z ∧ powOk (y + 104729 * z) 3 ∧ divOk ((y + 104729 * z) ^ (3 : Int).toNat) 2305843009213693921 ∧ divOk y 65537 ∧ mulOk 31 z ∧ powOk (tk1 y z + y.fmod 65537 + 31 * z) 5 ∧ divOk ((tk1 y z + y.fmod 65537 + 31 * z) ^ (5 : Int).toNat) 2305843009213693907 ∧ divOk (tk2 y z) 1024 ∧ divOk ((tk2 y z).fdiv 1024) m ∧ 0 ≤ ((tk2 y z).fdiv 1024).fmod m ∧ ((tk2 y z).fdiv 1024).fmod m < m := by
  have e30 : (lots : Int) = 1073741824 := by decide
  rw [e30] at hz
  have e31 : (2 : Nat) ^ 31 = 2147483648 := by decide
  have e61 : (2 : Nat) ^ 61 = 2305843009213693952 := by decide
  have e62 : (2 : Nat) ^ 62 = 4611686018427387904 := by decide
  rw [e61] at hy
  have a1 : 0 ≤ tk1 y z := fm_lo (by decide)
  have a2 : tk1 y z < 2305843009213693921 := fm_hi (by decide)
  have b1 := fm_lo (x := y) (m := 65537) (by decide)
  have b2 := fm_hi (x := y) (m := 65537) (by decide)
  have z31 : z.natAbs < 2 ^ 31 := by rw [e31]; omega
  refine ⟨mulOk_of (n := 17) (m := 31) (by decide) (by decide) (by decide) z31 (by decide), powOk_of (n := 62) (by rw [e62]; omega) (by decide) (by decide), divOk_of (n := 61) (by decide) (by decide) (by decide) (by decide), divOk_of (n := 17) (by decide) (by decide) (by decide) (by decide), mulOk_of (n := 17) (m := 31) (by decide) (by decide) (by decide) z31 (by decide), powOk_of (n := 62) (by rw [e62]; omega) (by decide) (by decide), divOk_of (n := 61) (by decide) (by decide) (by decide) (by decide), divOk_of (n := 11) (by decide) (by decide) (by decide) (by decide), divOk_of (n := 2000) (by omega) (by decide) hm (by decide), fm_lo (by omega), fm_hi (by omega)⟩
/-- a truth that is known -/
theorem bqc {Q : Bool → MH → Prop} {b : Bool} {M : MH} (c : Bool) (e : b = c) (h : Q c M) : boolQ Q (.d (.bool b)) M := by
  subst e
  exact h
theorem bq {Q : Bool → MH → Prop} {b : Bool} {M : MH} (h : Q b M) : boolQ Q (.d (.bool b)) M := h
theorem sm0 : small 0 := small_of (by decide)
theorem sm1 : small 1 := small_of (by decide)
theorem sm2 : small 2 := small_of (by decide)
theorem sm3 : small 3 := small_of (by decide)
theorem sm4 : small 4 := small_of (by decide)
theorem sm5 : small 5 := small_of (by decide)
theorem sm6 : small 6 := small_of (by decide)
theorem sm7 : small 7 := small_of (by decide)
theorem sm8 : small 8 := small_of (by decide)
theorem sm9 : small 9 := small_of (by decide)
theorem sm10 : small 10 := small_of (by decide)
theorem sm11 : small 11 := small_of (by decide)
theorem sm12 : small 12 := small_of (by decide)
theorem sm13 : small 13 := small_of (by decide)
theorem sm14 : small 14 := small_of (by decide)
theorem sm15 : small 15 := small_of (by decide)
theorem sm16 : small 16 := small_of (by decide)
theorem sm17 : small 17 := small_of (by decide)
theorem sm18 : small 18 := small_of (by decide)
theorem sm19 : small 19 := small_of (by decide)
theorem sm20 : small 20 := small_of (by decide)
theorem sm21 : small 21 := small_of (by decide)
theorem sm22 : small 22 := small_of (by decide)
theorem sm23 : small 23 := small_of (by decide)
theorem sm25 : small 25 := small_of (by decide)
theorem sm26 : small 26 := small_of (by decide)
theorem sm27 : small 27 := small_of (by decide)
theorem sm28 : small 28 := small_of (by decide)
theorem sm24 : small 24 := small_of (by decide)
end Dl
set_option Elab.async false
set_option linter.all false
set_option maxRecDepth 100000
namespace Dl
open PySem PySem.Spec PyProof.Rows L2

theorem spLaw_len : ∀ ws M Q E, spLaw ws M Q E → ws.length = 1 := by rintro _ _ _ _ ⟨ns, rfl, _⟩; rfl
theorem rng_len {lo : Int} {n : Nat} : (rng lo n).length = n := by simp [rng]
theorem rng_get {lo : Int} {n j : Nat} {w : W} (h : (rng lo n)[j]? = some w) : j < n ∧ w = .d (.int (lo + j)) := by
  unfold rng at h
  rw [List.getElem?_map] at h
  by_cases hj : j < n
  · rw [List.getElem?_range hj] at h
    exact ⟨hj, (Option.some.inj h).symm⟩
  · rw [List.getElem?_eq_none (by simpa using hj)] at h
    cases h
/-- a cut between statements -/
theorem sq_cut {t u : TSd} {D : EndsD} {σ : SD} {M : MH} (P : SD → MH → Prop) (h : ∀ N : SD → MH → Prop, (∀ σ M, P σ M → N σ M) → t { D with nx := N } σ M) (k : ∀ σ M, P σ M → u D σ M) : tSq t u D σ M := h (u D) k
theorem mem_map_get {ds : List PyData} {j : Nat} {w : W} (h : (ds.map W.d)[j]? = some w) : ∃ d, w = .d d ∧ d ∈ ds := by
  obtain ⟨d, e, h2⟩ := getElem?_mapd h
  exact ⟨d, e, List.mem_of_getElem? h2⟩
theorem Pot.of {p : Addr} {n : Nat} {M M' : MH} (h : Pot p n M) (e : M' p = M p) : Pot p n M' := by
  obtain ⟨x, y, z, h1, r⟩ := h
  exact ⟨x, y, z, by rw [e]; exact h1, r⟩
theorem Pot.ne {p D : Addr} {n : Nat} {M : MH} (h : Pot p n M) (k : M D = none) : p ≠ D := by
  rintro rfl
  exact h.there k
theorem dataQ_of {Q : List PyData → MH → Prop} {ds : List PyData} {M : MH} (h : Q ds M) : dataQ Q (ds.map W.d) M := by
  unfold dataQ
  rw [allD_map]
  exact h
/-- a list of things drawn one by one from the pot at p, at most c draws each -/
theorem lcDraw {ws : List W} {kc : MH → Prop} {M1 : MH} {σ : SD} {vs : List Nat} {T : Tg} {te : TEd} {R0 : List PyData → MH → Prop} (p : Addr) (n c : Nat) (P : PyData → Prop) (hz : ws.length ≤ 16000000) (hkc : ∀ M, kc M) (hp : Pot p n M1)
    (he : ∀ (j : Nat) w, ws[j]? = some w → tgQ T w (wipeD σ vs) fun σ2 => ∀ M2, Pot p (n + c * j) M2 → Oth p M1 M2 → ∀ R : W → MH → Prop, (∀ x M3, P x → Pot p (n + c * j + c) M3 → Oth p M2 M3 → R (.d x) M3) → te σ2 M2 R)
    (q : ∀ ds M3, ds.length = ws.length → (∀ d ∈ ds, P d) → Pot p (n + c * ws.length) M3 → Oth p M1 M3 → R0 ds M3) :
    ∀ D, M1 D = none → ∃ I : Nat → List W → MH → Prop, I 0 [] (mset M1 D (.lst [])) ∧ (∀ j acc M2, I j acc M2 → kc M2 ∧ M2 D = some (.lst acc)) ∧
      (∀ j w acc M2, ws[j]? = some w → I j acc M2 → tgQ T w (wipeD σ vs) fun σ2 => tAll σ2 M2 fun b M4 => if b = true then te σ2 M4 fun x M5 => M5 D = some (.lst acc) ∧ acc.length < sizeLine ∧ I (j + 1) (acc ++ [x]) (mset M5 D (.lst (acc ++ [x]))) else I (j + 1) acc M4) ∧
      (∀ acc M2, I ws.length acc M2 → dataQ R0 acc (mdel M2 D)) := by
  intro D nD
  have pD := hp.ne nD
  have sz := sizeLine_eq
  refine ⟨fun j acc M2 => j ≤ ws.length ∧ M2 D = some (.lst acc) ∧ Pot p (n + c * j) M2 ∧ Oth p M1 M2 ∧ ∃ ds : List PyData, acc = ds.map W.d ∧ ds.length = j ∧ ∀ d ∈ ds, P d, ?_, ?_, ?_, ?_⟩
  · refine ⟨Nat.zero_le _, mset_same, (hp.mono (by omega)).of (mset_ne pD), ?_, [], rfl, rfl, by simp⟩
    intro b o nb e
    rw [mset_ne (by rintro rfl; rw [nD] at e; cases e)]
    exact e
  · rintro j acc M2 ⟨_, h, _⟩
    exact ⟨hkc _, h⟩
  · rintro j w acc M2 hj ⟨hle, hD, hpj, ho, ds, rfl, hl, hP⟩
    have hj2 : j < ws.length := (List.getElem?_eq_some_iff.mp hj).1
    have fin : ∀ σ2, (∀ M2, Pot p (n + c * j) M2 → Oth p M1 M2 → ∀ R : W → MH → Prop, (∀ x M3, P x → Pot p (n + c * j + c) M3 → Oth p M2 M3 → R (.d x) M3) → te σ2 M2 R) → te σ2 M2 fun x M5 => M5 D = some (.lst (ds.map W.d)) ∧ (ds.map W.d).length < sizeLine ∧ (j + 1 ≤ ws.length ∧ (mset M5 D (.lst (ds.map W.d ++ [x]))) D = some (.lst (ds.map W.d ++ [x])) ∧ Pot p (n + c * (j + 1)) (mset M5 D (.lst (ds.map W.d ++ [x]))) ∧ Oth p M1 (mset M5 D (.lst (ds.map W.d ++ [x]))) ∧ ∃ es : List PyData, ds.map W.d ++ [x] = es.map W.d ∧ es.length = j + 1 ∧ ∀ d ∈ es, P d) := by
      intro σ2 h
      refine h M2 hpj ho _ fun x M3 px pp oo => ?_
      refine ⟨oo D _ (fun e => pD e.symm) hD, by rw [List.length_map, hl]; omega, by omega, mset_same, ?_, ?_, ds ++ [x], by simp, by simp [hl], ?_⟩
      · refine (pp.mono ?_).of (mset_ne pD)
        rw [Nat.mul_add, Nat.mul_one]
        omega
      · intro b o nb e
        rw [mset_ne (by rintro rfl; rw [nD] at e; cases e)]
        exact oo b o nb (ho b o nb e)
      · intro d hd
        rcases List.mem_append.mp hd with h1 | h1
        · exact hP d h1
        · rw [List.mem_singleton.mp h1]; exact px
    have z := he j w hj
    cases T with
    | one jt => exact fin _ z
    | many js =>
      unfold tgQ at z ⊢
      simp only at z ⊢
      split at z
      · exact ⟨z.1, fin _ z.2⟩
      · exact z.elim
  · rintro acc M2 ⟨_, hD, hpj, ho, ds, rfl, hl, hP⟩
    refine dataQ_of (q ds _ hl hP (hpj.of (mdel_ne pD)) ?_)
    intro b o nb e
    rw [mdel_ne (by rintro rfl; rw [nD] at e; cases e)]
    exact ho b o nb e
end Dl
set_option Elab.async false
set_option linter.all false
set_option maxRecDepth 100000
namespace Dl
open PySem PySem.Spec PyProof.Rows L2

section
variable {g : Gc} {i : Si} {k : Nat} {Y : Dx} {s : L2.St} {H : Hp} {σ : SD} {M : MH}
/-! ### slices -/
abbrev TOd := SD → MH → (Option Int → MH → Prop) → Prop
def semO1 (X : Cx) (e : Option Expr) : TO := fun s H Q => ∀ pins sh, Inv X pins s H sh → wpAny (model X.prog X.w) X.A (evalPart e X.env) (fun u s' => ∃ o H', Inv X pins s H' s' ∧ IsPart u o ∧ Q o H') X.xe sh
theorem po_sem {X : Cx} {e : Option Expr} : PO X e (semO1 X e) := ⟨fun pins s sh H Q I h => h pins s I⟩
theorem semO1_of {X : Cx} {e : Option Expr} {t : TO} (h : PO X e t) {s : L2.St} {H : Hp} {Q : Option Int → Hp → Prop} (q : t s H Q) : semO1 X e s H Q := fun pins sh I => h.run pins sh s H Q I q
structure QO (Y : Dx) (e : Option Expr) (t : TOd) : Prop where
  run : ∀ s H σ M Q, Std Y s H σ M → t σ M Q → semO1 Y.X e s H (fun o H' => ∃ M', Ext H M H' M' ∧ Dok Y.X.K H' M' ∧ Q o M')
def tNoO : TOd := fun _ M Q => Q none M
def tSmO (t : TEd) : TOd := fun σ M Q => t σ M fun w M1 => match w with | .d (.int n) => Q (some n) M1 | _ => False
theorem o_no : QO Y none tNoO := ⟨fun s H σ M Q S h => semO1_of po_none ⟨M, .refl _ _, S.d, h⟩⟩
theorem o_sm {e : Expr} {t : TEd} (he : QE Y e t) : QO Y (some e) (tSmO t) := by
  refine ⟨fun s H σ M Q S h => semO1_of (po_some pe_sem) (he.then_ S h fun v H1 w M1 e d r q => ?_)⟩
  split at q
  · exact ⟨_, r.int, M1, e, d, q⟩
  · exact q.elim
/-- the part of a list from lo to hi -/
def cut {α : Type} (xs : List α) (lo hi : Option Int) : List α := (xs.drop (HT.sIx xs.length 0 lo)).take (HT.sIx xs.length xs.length hi - HT.sIx xs.length 0 lo)
def rSlD : W → Option Int → Option Int → MH → (W → MH → Prop) → Prop := fun w lo hi M Q => match w with
  | .d (.tuple ds) => Q (.d (.tuple (cut ds lo hi))) M
  | .d (.str z) => small z.length ∧ Q (.d (.str (cutS z lo hi))) M
  | .d (.list ds) => Q (.d (.list (cut ds lo hi))) M
  | _ => False
theorem FzA.cut {K : PySem.W.Frag} {vs : List V} {ds : List PyData} (h : FzA K H M vs ds) (lo hi : Option Int) : FzA K H M (cutV vs lo hi) (cut ds lo hi) := by
  unfold cutV Dl.cut
  rw [h.length]
  exact (h.drop _).take _
theorem cut_whole {α : Type} (xs : List α) {lo hi : Option Int} (h : HT.sIx xs.length 0 lo = 0 ∧ HT.sIx xs.length xs.length hi = xs.length) : cut xs lo hi = xs := by
  unfold cut
  rw [h.1, h.2]
  simp
def tSlD (te : TEd) (tl th : TOd) : TEd := fun σ M Q => te σ M fun w M1 => tl σ M1 fun lo M2 => th σ M2 fun hi M3 => rSlD w lo hi M3 Q
def rSlX (K : PySem.W.Frag) : V → Option Int → Option Int → Hp → VK → Prop := fun x lo hi H Q => (rSlA K x lo hi H Q ∨ rSlS x lo hi H Q) ∨ rSlL K x lo hi H Q
theorem q_sl {e : Expr} {lo hi : Option Expr} {te : TEd} {tl th : TOd} {p2 pos : Pos} (he : QE Y e te) (hl : QO Y lo tl) (hh : QO Y hi th) : QE Y (.Subscript e (.Slice lo hi none p2) pos) (tSlD te tl th) := by
  refine ⟨fun s H σ M Q S h => semE_of (pe_slice ((sl_tupA.or sl_str).or sl_list) pe_sem po_sem po_sem) (he.then_ S h fun v H1 w M1 e d r q => fun pins sh I => ?_)⟩
  refine thn (hl.run _ _ _ _ _ (S.go e d) q pins sh I) fun u s1 ⟨o, H2, I2, p, M2, e2, d2, q2⟩ => ⟨o, H2, I2, p, fun pins sh I => ?_⟩
  refine thn (hh.run _ _ _ _ _ ((S.go e d).go e2 d2) q2 pins sh I) fun u s1 ⟨o3, H3, I3, p3, M3, e3, d3, q3⟩ => ⟨o3, H3, I3, p3, ?_⟩
  have S3 := ((S.go e d).go e2 d2).go e3 d3
  have r3 := (r.ext e2).ext e3
  have tr : ∀ {v : V} {H' : Hp}, up Y H3 M3 Q v H' → up Y H M Q v H' := fun z => z.trans ((e.trans e2).trans e3)
  unfold rSlD at q3
  split at q3
  · obtain ⟨p, xs, rfl, h1, h2⟩ := r3.tup
    refine .inl (.inl ⟨p, xs, rfl, h1.sq, fun hw => ?_, fun _ a n => tr (up_tup S3 n (h2.cut o o3) q3)⟩)
    rw [h2.length] at hw
    rw [cut_whole _ hw] at q3
    exact tr (S3.here (w := .d (.tuple _)) (Fz.tup h1 h2) q3)
  · exact .inl (.inr ⟨_, r3.str, q3.1, tr (S3.here (wStr _) q3.2)⟩)
  · obtain ⟨p, xs, rfl, h1, h2⟩ := r3.lst
    exact .inr ⟨p, xs, rfl, SqL.of h1.1, fun a n => tr (up_lst S3 n (h2.cut o o3) q3)⟩
  · exact q3.elim
end
end Dl
set_option Elab.async false
set_option linter.all false
set_option maxRecDepth 100000
namespace Dl
open PySem PySem.Spec PyProof.Rows L2

section
variable {g : Gc} {i : Si} {k : Nat} {Y : Dx}
/-! ### methods of built-in types -/
abbrev RMd := W → List W → MH → (W → MH → Prop) → Prop
def tMet (ty : W → MH → Prop) (r : RMd) (to : TEd) (t : TAd) : TEd := fun σ M Q => to σ M fun w M1 => ty w M1 ∧ t σ M1 fun ws M2 => r w ws M2 Q
structure MetD (Y : Dx) (T : String) (id : String) (name : Str) (ty : W → MH → Prop) (rD : RMd) : Prop where
  go : ∃ r, PlainAttrs T ∧ Slot T name id ∧ typeOf (.builtin id) = pure (.type "method_descriptor") ∧ MtR Y.X id r ∧ (∀ {s : L2.St} {H : Hp} {σ : SD} {M : MH} {x : V} {w : W}, Std Y s H σ M → Wv Y.X.K H M x w → ty w M → tyV Y.X.K T x H) ∧
    ∀ {s : L2.St} {H : Hp} {σ : SD} {M : MH} {x : V} {w : W} {vs : List V} {ws : List W} {Q : W → MH → Prop} {R : VK}, Std Y s H σ M → Wv Y.X.K H M x w → WvA Y.X.K H M vs ws → rD w ws M Q → (∀ v H', up Y H M Q v H' → R v H') → r x vs H R
theorem q_met {T id : String} {name : Str} {ty : W → MH → Prop} {rD : RMd} {o e : Expr} {es : List Expr} {to : TEd} {t : TAd} {apos cpos : Pos} (m : MetD Y T id name ty rD) (ho : QE Y o to) (ha : QA Y (e :: es) t)
    (hbase : attributeBase o name Y.X.env (eval o Y.X.env) = eval o Y.X.env := by rfl)
    (hfew : ((backTo cpos (starEach (e :: es) Y.X.env)).all (fun x => !x.1) && (backToKw cpos (keywordEach [] Y.X.env)).all (fun x => x.1.isSome) && decide ((e :: es).length + ([] : List Keyword).length + (if ([] : List Keyword).isEmpty then 0 else 1) < 30)) = true := by rfl)
    (hline : (apos.endLine == cpos.line) = true := by rfl) (hs : starEach (e :: es) Y.X.env = (false, eval e Y.X.env) :: starEach es Y.X.env := by rfl) (hp : (backTo cpos (starEach es Y.X.env)).any (·.1) = false := by rfl) :
    QE Y (.Call (.Attribute o name apos) (e :: es) [] cpos) (tMet ty rD to t) := by
  obtain ⟨r, pa, sl, hty, hm, h1, h2⟩ := m.go
  refine ⟨fun s H σ M Q S h => semE_of (pe_bm pa sl hty hm pe_sem pa_sem hbase hfew hline hs hp) (ho.then_ S h fun x H1 w M1 e1 d1 r1 q => ⟨h1 (S.go e1 d1) r1 q.1, fun pos pins sh I => ?_⟩)⟩
  refine thn (ha.run _ _ _ _ _ (S.go e1 d1) q.2 pos pins sh I) fun us s2 ⟨vs, H2, I2, ru, ws, M2, e2, d2, r2, q2⟩ => ⟨vs, H2, I2, ru, ?_⟩
  exact h2 ((S.go e1 d1).go e2 d2) (r1.ext e2) r2 q2 fun v H' z => z.trans (e1.trans e2)
theorem q_met0 {T id : String} {name : Str} {ty : W → MH → Prop} {rD : RMd} {o : Expr} {to : TEd} {apos cpos : Pos} (m : MetD Y T id name ty rD) (ho : QE Y o to)
    (hbase : attributeBase o name Y.X.env (eval o Y.X.env) = eval o Y.X.env := by rfl) (hline : (apos.endLine == cpos.line) = true := by rfl) :
    QE Y (.Call (.Attribute o name apos) [] [] cpos) (tMet ty rD to tNilA) := by
  obtain ⟨r, pa, sl, hty, hm, h1, h2⟩ := m.go
  refine ⟨fun s H σ M Q S h => semE_of (pe_bm0 pa sl hty hm pe_sem hbase hline) (ho.then_ S h fun x H1 w M1 e1 d1 r1 q => ⟨h1 (S.go e1 d1) r1 q.1, ?_⟩)⟩
  exact h2 (S.go e1 d1) r1 (ws := []) .nil q.2 fun v H' z => z.trans e1
/-- .. of a list that may change -/
def tyMut : W → MH → Prop := fun w M => match w with | .ref p => ∃ ws, M p = some (.lst ws) | _ => False
theorem tyMut_is {s : L2.St} {H : Hp} {σ : SD} {M : MH} {x : V} {w : W} (S : Std Y s H σ M) (r : Wv Y.X.K H M x w) (h : tyMut w M) : tyV Y.X.K "list" x H := by
  unfold tyMut at h
  split at h
  · obtain ⟨ws, hm⟩ := h
    obtain rfl := (show x = _ from r)
    obtain ⟨xs, h1, h2⟩ := S.d _ _ hm
    exact .inl ⟨rfl, xs, SqL.of h1⟩
  · exact h.elim
def rApp : RMd := fun w us M Q => match w, us with
  | .ref p, [u] => ∃ ws, M p = some (.lst ws) ∧ ws.length < sizeLine ∧ Q (.d .none) (mset M p (.lst (ws ++ [u])))
  | _, _ => False
theorem WvA.append {K : PySem.W.Frag} {H : Hp} {M : MH} {xs ys : List V} {ws us : List W} (h : WvA K H M xs ws) (k : WvA K H M ys us) : WvA K H M (xs ++ ys) (ws ++ us) := by
  induction h with
  | nil => exact k
  | cons r _ ih => exact .cons r ih
theorem m_append : MetD Y "list" "list.append" "append" tyMut rApp := by
  refine ⟨rAppend, F.plainAttrs_list, F.slot_list_append, F.type_list_append, mt_append, fun S r h => tyMut_is S r h, ?_⟩
  intro s H σ M x w vs ws Q R S r rs q k
  unfold rApp at q
  split at q
  · obtain ⟨xs, hm, hz, q⟩ := q
    obtain rfl := (show x = _ from r)
    obtain ⟨ys, h1, h2⟩ := S.d _ _ hm
    obtain ⟨v, rfl, rv⟩ := rs.one
    exact ⟨_, ys, v, rfl, rfl, h1, by rw [Paired.length h2]; exact hz, k _ _ (up_set S hm (h2.append (.cons rv .nil)) wNone q)⟩
  · exact q.elim
end
end Dl
set_option Elab.async false
set_option linter.all false
set_option maxRecDepth 100000
namespace HT
open PySem PySem.Spec PyProof.Rows
section
variable {prog : Program} {w : World} {A : Around} {E : Value → Shared → Prop} {s : Shared}
theorem rv_pick (xs : Array Value) : ((List.range xs.size).filterMap fun (m : Nat) => xs[(((xs.size : Nat) : Int) - 1 + (m : Int) * (-1)).toNat]?).toArray = xs.toList.reverse.toArray := by
  have cg : ∀ (l : List Nat) (f g : Nat → Option Value), (∀ m ∈ l, f m = g m) → l.filterMap f = l.filterMap g := by
    intro l f g h
    induction l with
    | nil => rfl
    | cons a l ih => rw [List.filterMap_cons, List.filterMap_cons, h a List.mem_cons_self, ih fun m hm => h m (List.mem_cons_of_mem _ hm)]
  have e : (List.range xs.size).filterMap (fun (m : Nat) => xs[(((xs.size : Nat) : Int) - 1 + (m : Int) * (-1)).toNat]?) = (List.range xs.size).filterMap (fun m => xs.toList.reverse[m]?) := by
    apply cg
    intro m hm
    have hm' : m < xs.size := List.mem_range.mp hm
    rw [List.getElem?_reverse (by simpa using hm'), Array.getElem?_toList]
    congr 1
    rw [Array.length_toList]
    omega
  have full : ∀ (l : List Value), (List.range l.length).filterMap (fun m => l[m]?) = l := by
    intro l
    induction l with
    | nil => rfl
    | cons a l ih =>
      rw [List.length_cons, List.range_succ_eq_map, List.filterMap_cons, List.filterMap_map]
      simp only [List.getElem?_cons_zero]
      congr 1
  have := full xs.toList.reverse
  rw [List.length_reverse, Array.length_toList] at this
  rw [e, this]
theorem rv_applied {sl : Addr} {u : Tok} {n : Nat} {Q : Int × Int × Nat → Shared → Prop} (hs : s.heap.IsSliceOf sl .none .none (.int (-1) u)) (h : Q (((n : Nat) : Int) - 1, -1, n) s) :
    wpAny (model prog w) A (Builtin.Slice.sliceApplied (.ref sl) (pure (n : Int))) Q E s := by
  obtain ⟨os, hos, hcs, hds⟩ := id hs
  unfold Builtin.Slice.sliceApplied Builtin.Slice.sliceFields
  refine wpAny_bind (wpAny_bind (wpAny_field hos hds (x := .none) rfl (wpAny_bind (wpAny_field hos hds (x := .none) rfl (wpAny_bind (wpAny_field hos hds (x := .int (-1) u) rfl (wpAny_pure ?_)))))))
  refine wpAny_bind (slicePart_int ?_)
  show wpAny _ _ (if ((-1 : Int) == 0) = true then _ else _) _ _ s
  rw [if_neg (by decide)]
  refine wpAny_bind (slicePart_none (wpAny_bind (slicePart_none (wpAny_bind (wpAny_pure ?_)))))
  show wpAny _ _ (pure (((n : Nat) : Int) - 1, (-1 : Int), Builtin.Slice.slicePlaces (((n : Nat) : Int) - 1) (-1) (-1))) _ _ s
  have e : Builtin.Slice.slicePlaces (((n : Nat) : Int) - 1) (-1) (-1) = n := by
    unfold Builtin.Slice.slicePlaces
    rw [if_neg (by decide)]
    split
    · rw [show (-(-1) : Int) = 1 by decide, Int.ediv_one]
      omega
    · omega
  rw [e]
  exact wpAny_pure h
theorem rv_get {t sl : Addr} {items : Array Value} {u : Tok} {Q : Value → Shared → Prop} (ht : IsTup s.heap t items) (hs : s.heap.IsSliceOf sl .none .none (.int (-1) u))
    (h : Q (.ref s.heap.objs.size) { s with heap := s.heap.push { cls := .type "tuple", data := .seq items.toList.reverse.toArray } }) (hz : items.size ≤ sizeLine) : wpAny (model prog w) A (getItem (.ref t) (.ref sl)) Q E s := by
  have fit : sizeOk (.seq items.toList.reverse.toArray) := by
    show items.toList.reverse.toArray.size ≤ sizeLine
    simpa using hz
  have ty : s.TypeIs (.ref sl) "slice" := by
    obtain ⟨os, hos, hcs, _⟩ := id hs
    exact ⟨os, hos, hcs⟩
  unfold getItem
  try with_reducible refine wpAny_holding ?_
  first | refine wpAny_bind (wpAny_pure ?_) | skip
  refine wpAny_bind (wpAny_sequenceKey ht.typeIs (by decide) (wpAny_bind (wpAny_callSpecial?_slot (name := Str.ofString "__getitem__") ht.typeIs PyProof.Rows.slot_tuple_getitem (wpAny_call_entry PyProof.Rows.slot_tuple_getitem ht.typeIs entry_tuple_getitem ?_ (args_tuple_getitem _ _)))))
  show wpAny _ _ (Builtin.Tuple.tupleItemsOf (.ref t) >>= _) _ _ s
  refine wpAny_bind (tupleItemsOf_ ht (wpAny_bind (wpAny_typeOf ty ?_)))
  rw [if_pos (by decide)]
  refine wpAny_bind (rv_applied hs ?_)
  show wpAny _ _ (if ((((items.size : Nat) : Int) - 1) == 0 && (-1 : Int) == 1 && items.size == items.size) = true then _ else _) _ _ s
  rw [if_neg (by simp), rv_pick]
  first
    | exact wpAny_bind (m := Builtin.Tuple.tupleExact _) (wpAny_newObj_type (wpAny_pure ⟨_, rfl, wpAny_pure h⟩) fit)
    | exact wpAny_bind (m := Builtin.Tuple.tupleExact _) (wpAny_newObj_type (wpAny_bind (wpAny_pure (wpAny_pure ⟨_, rfl, wpAny_pure h⟩))) fit)
    | exact wpAny_bind (wpAny_bind (m := Builtin.Tuple.tupleExact _) (wpAny_newObj_type (wpAny_pure (wpAny_pure ⟨_, rfl, wpAny_pure h⟩)) fit))
    | exact wpAny_bind (wpAny_bind (m := Builtin.Tuple.tupleExact _) (wpAny_newObj_type (wpAny_pure ⟨_, rfl, wpAny_pure h⟩) fit))
end
end HT
namespace Dl
open PySem PySem.Spec PyProof.Rows L2
section
variable {g : Gc} {i : Si} {k : Nat} {Y : Dx}
theorem FzA.reverse {K : PySem.W.Frag} {H : Hp} {M : MH} {vs : List V} {ds : List PyData} (h : FzA K H M vs ds) : FzA K H M vs.reverse ds.reverse := by
  induction ds generalizing vs with
  | nil => cases h; exact .nil
  | cons d ds ih =>
    cases h with
    | cons r t =>
      rw [List.reverse_cons, List.reverse_cons]
      exact (ih t).append (.cons r .nil)
/-- t[::n] of a tuple, n = -1 -/
def tRev (te tn : TEd) : TEd := fun σ M Q => te σ M fun w M1 => tn σ M1 fun n M2 => match w, n with | .d (.tuple ds), .d (.int j) => j = -1 ∧ Q (.d (.tuple ds.reverse)) M2 | _, _ => False
theorem tRev_get {w n : W} {M : MH} {Q : W → MH → Prop} (h : match w, n with | .d (.tuple ds), .d (.int j) => j = -1 ∧ Q (.d (.tuple ds.reverse)) M | _, _ => False) : ∃ ds, w = .d (.tuple ds) ∧ n = .d (.int (-1)) ∧ Q (.d (.tuple ds.reverse)) M := by
  split at h
  · obtain ⟨rfl, h⟩ := h
    exact ⟨_, rfl, rfl, h⟩
  · exact h.elim
theorem q_rev {e n : Expr} {te tn : TEd} {p2 pos : Pos} (he : QE Y e te) (hn : QE Y n tn) : QE Y (.Subscript e (.Slice none none (some n) p2) pos) (tRev te tn) := by
  refine ⟨fun s H σ M Q S h pins sh I => ?_⟩
  refine Subscript_ (thn (he.run _ _ _ _ _ S h pins sh I) fun v s1 ⟨x, H1, I1, r1, w, M1, e1, d1, rw1, q⟩ => ?_)
  refine wpAny_Slice ?_
  rw [evalPart_none]
  refine wpAny_pure (wpAny_pure ?_)
  rw [evalPart_some]
  refine thn (hn.run _ _ _ _ _ (S.go e1 d1) q pins s1 I1) fun u s2 ⟨y, H2, I2, r2, w2, M2, e2, d2, rw2, q2⟩ => ?_
  obtain ⟨ds, rfl, rfl, q3⟩ := tRev_get q2
  obtain ⟨p, xs, rfl, h1, h2⟩ := (rw1.ext e2).tup
  cases r1
  cases (show y = .int (-1) from rw2.int)
  obtain ⟨tk, rfl⟩ := r2
  obtain ⟨its, rv, ht, hz⟩ := I2.tuple h1.sq
  have I3 : Inv Y.X pins s H2 { s2 with heap := s2.heap.push { cls := .type "slice", data := .fields #[.none, .none, .int (-1) tk] } } := I2.kept (t' := s2.toks) fun b o q => Heap.get?_push_of_some _ q
  have ht3 := ht.push { cls := .type "slice", data := .fields #[.none, .none, .int (-1) tk] }
  refine tail_any (ops := [.ref p, .ref s2.heap.objs.size]) ht3.typeIs PyProof.Rows.slot_tuple_getitem.lookup (HT.rv_get ht3 (Heap.IsSliceOf.new ..) ?_ (by rw [List.size_toArray, ← rv.length]; exact hz)) (by with_unfolding_all rfl)
  have S3 := (S.go e1 d1).go e2 d2
  have fr := I3.fresh
  have z := up_tup (Q := Q) S3 fr h2.reverse q3
  exact ⟨.ref _, _, I3.laid (t' := s2.toks) (o := .tup xs.reverse) (fun b ob q => Heap.get?_push_of_some _ q) (Nat.le_refl _) ⟨by rw [List.length_reverse]; exact hz, _, rv.reverse, IsTup.new _ _⟩, rfl, z.trans (e1.trans e2)⟩
end
end Dl
set_option Elab.async false
set_option linter.all false
set_option maxRecDepth 100000
namespace Dl
open PySem PySem.Spec PyProof.Rows L2

/-! ### constants of the text, looked at in the fragment -/
mutual
def chkD (K : PySem.W.Frag) : Nat → Value → PyData → Bool
  | _, .none, .none => true
  | _, .bool a, .bool b => a == b
  | _, .int a _, .int b => a == b
  | _, .str a _, .str b => a == b
  | f + 1, .ref a, .tuple ds => match K.lookup a with
    | some ⟨.type T, _, .seq its _, _⟩ => T == "tuple" && decide (its.size ≤ sizeLine) && chkA K f its.toList ds
    | _ => false
  | _, _, _ => false
def chkA (K : PySem.W.Frag) : Nat → List Value → List PyData → Bool
  | _, [], [] => true
  | f + 1, u :: us, d :: ds => chkD K f u d && chkA K f us ds
  | _, _, _ => false
end
mutual
theorem chkD_ok (K : PySem.W.Frag) : ∀ (f : Nat) (u : Value) (d : PyData), chkD K f u d = true → ∃ v, RelV v u ∧ ∀ H M, Fz K H M v d
  | f, u, .none, h => by
    cases f <;> cases u <;> first | exact ⟨.non, rfl, fun _ _ => .non⟩ | (simp only [chkD] at h; cases h)
  | f, u, .bool b, h => by
    cases f <;> cases u <;> first | (simp only [chkD, beq_iff_eq] at h; subst h; exact ⟨.bl _, rfl, fun _ _ => .bl _⟩) | (simp only [chkD] at h; cases h)
  | f, u, .int b, h => by
    cases f <;> cases u <;> first | (simp only [chkD, beq_iff_eq] at h; subst h; exact ⟨.int _, ⟨_, rfl⟩, fun _ _ => .int _⟩) | (simp only [chkD] at h; cases h)
  | f, u, .str b, h => by
    cases f <;> cases u <;> first | (simp only [chkD, beq_iff_eq] at h; subst h; exact ⟨.str _, ⟨_, rfl⟩, fun _ _ => .str _⟩) | (simp only [chkD] at h; cases h)
  | f, u, .list _, h => by cases f <;> cases u <;> (simp only [chkD] at h; cases h)
  | f, u, .dict _, h => by cases f <;> cases u <;> (simp only [chkD] at h; cases h)
  | 0, u, .tuple _, h => by cases u <;> (simp only [chkD] at h; cases h)
  | f + 1, u, .tuple ds, h => by
    cases u with
    | ref a =>
      simp only [chkD] at h
      split at h
      · rename_i T dd its n sl hl
        simp only [Bool.and_eq_true, beq_iff_eq, decide_eq_true_eq] at h
        obtain ⟨⟨hT, hz⟩, hA⟩ := h
        subst hT
        obtain ⟨vs, r, q⟩ := chkA_ok K f its.toList ds hA
        exact ⟨.ref a, rfl, fun H M => .tup (.inr (.inr ⟨_, its, n, hl, rfl, rfl, hz, r⟩)) (q H M)⟩
      · cases h
    | _ => simp only [chkD] at h; cases h
theorem chkA_ok (K : PySem.W.Frag) : ∀ (f : Nat) (us : List Value) (ds : List PyData), chkA K f us ds = true → ∃ vs, Vals vs us ∧ ∀ H M, FzA K H M vs ds
  | _, [], [], _ => ⟨[], .nil, fun _ _ => .nil⟩
  | 0, [], _ :: _, h => by simp only [chkA] at h; cases h
  | _ + 1, [], _ :: _, h => by simp only [chkA] at h; cases h
  | 0, _ :: _, [], h => by simp only [chkA] at h; cases h
  | _ + 1, _ :: _, [], h => by simp only [chkA] at h; cases h
  | 0, _ :: _, _ :: _, h => by simp only [chkA] at h; cases h
  | f + 1, u :: us, d :: ds, h => by
    simp only [chkA, Bool.and_eq_true] at h
    obtain ⟨v, r, q⟩ := chkD_ok K f u d h.1
    obtain ⟨vs, rs, qs⟩ := chkA_ok K f us ds h.2
    exact ⟨v :: vs, .cons r rs, fun H M => .cons (q H M) (qs H M)⟩
end
theorem cst_of {g : Gc} {x : Str} {d : PyData} {f : Nat} {u : Value} (m : g.mg x = some u) (c : chkD g.K f u d = true) : Cst g x d := by
  obtain ⟨v, r, q⟩ := chkD_ok _ f u d c
  exact ⟨v, u, m, r, q⟩

section
variable {g : Gc} {i : Si} {k : Nat} {Y : Dx}
/-! ### texts: order, within; a tuple some times -/
def rLeS : R2d := fun a b M Q => match a, b with
  | .d (.str x), .d (.str y) => Q (.d (.bool (!decide (y.cps.toList < x.cps.toList)))) M
  | _, _ => False
theorem o_leS : Op2 Y (compareOp .LtE) rLeS := by
  intro s H σ M x y a b Q S rx ry q
  unfold rLeS at q
  split at q
  · exact semO_of op_le_str ⟨_, _, rx.str, ry.str, S.here (wBool _) q⟩
  · exact q.elim
def rLtS : R2d := fun a b M Q => match a, b with
  | .d (.str x), .d (.str y) => Q (.d (.bool (decide (x.cps.toList < y.cps.toList)))) M
  | _, _ => False
theorem o_ltS : Op2 Y (compareOp .Lt) rLtS := by
  intro s H σ M x y a b Q S rx ry q
  unfold rLtS at q
  split at q
  · exact semO_of op_lt_str ⟨_, _, rx.str, ry.str, S.here (wBool _) q⟩
  · exact q.elim
def within (x y : Str) : Bool := !(Builtin.Str.occurrences y x 0 y.length 1).isEmpty
def rInS : R2d := fun a b M Q => match a, b with
  | .d (.str x), .d (.str y) => Q (.d (.bool (within x y))) M
  | _, _ => False
theorem o_inS : Op2 Y (compareOp .In) rInS := by
  intro s H σ M x y a b Q S rx ry q
  unfold rInS at q
  split at q
  · exact semO_of op_in_str ⟨_, _, rx.str, ry.str, S.here (wBool _) q⟩
  · exact q.elim
theorem within_one (c : Nat) (y : Str) : within ⟨#[c]⟩ y = decide (c ∈ y.cps.toList) := StrLaws.found_one y c
def rRepD : R2d := fun a b M Q => match a, b with
  | .d (.tuple ds), .d (.int n) => ds ≠ [] ∧ 2 ≤ n ∧ n ≤ 1000 ∧ ds.length ≤ 1000 ∧ Q (.d (.tuple (List.replicate n.toNat ds).flatten)) M
  | _, _ => False
theorem FzA.rep {K : PySem.W.Frag} {H : Hp} {M : MH} {vs : List V} {ds : List PyData} (h : FzA K H M vs ds) : ∀ n : Nat, FzA K H M (List.replicate n vs).flatten (List.replicate n ds).flatten
  | 0 => .nil
  | n + 1 => by
    rw [List.replicate_succ, List.replicate_succ, List.flatten_cons, List.flatten_cons]
    exact h.append (FzA.rep h n)
theorem o_rep : Op2 Y (binaryOp .Mult) rRepD := by
  intro s H σ M x y a b Q S rx ry q
  unfold rRepD at q
  split at q
  · obtain ⟨p, xs, rfl, h1, h2⟩ := rx.tup
    obtain ⟨q1, q2, q3, q4, q5⟩ := q
    refine semO_of op_repT ⟨p, _, xs, rfl, ry.int, h1.sq, ?_, q2, q3, by rw [h2.length]; exact q4, fun r n => up_tup S n (h2.rep _) q5⟩
    rintro rfl
    cases h2
    exact q1 rfl
  · exact q.elim
/-- a way that is not gone -/
def tNever : TSd := fun _ _ _ => False
theorem s_raise {a b : Option Expr} {pos : Pos} : QS Y (.Raise a b pos) tNever := ⟨fun _ _ _ _ _ _ h => h.elim⟩
/-- a def that is not called at this depth -/
def spNo : SpD := fun _ _ _ _ => False
theorem df_no {g : Gc} {x : Str} {st : Stmt} {ps : List Str} (P : Pl g x st) (hsy : SysOk g.base) {i : Si} (Sc : FnScope i.N ps (defScope st)) (ok : ScOk i (defScope st))
    (hb : ∀ (kV doc pm : Value) (an : Option Addr) (cdv ct : Value) (us : List Value), us.length = ps.length → bindArgs (PySem.W.fnOf x x (defArgs st) (defBody st) (defScope st) .none kV doc pm an cdv ct) ⟨us, []⟩ = pure (ps.zip us))
    (body : ∃ t, ∀ Y : Dx, Fm g i 0 Y → QSs Y (defBody st) t) : Df g 1 x ps spNo :=
  df_of (k := 0) P hsy Sc ok hb (fun _ _ _ _ h => h.elim) fun _ _ _ _ _ _ _ h => h.elim
end
end Dl
set_option Elab.async false
set_option linter.all false
set_option maxRecDepth 100000
/-! sizes of data -/
namespace Dl
open PySem PySem.Spec PyProof.Rows L2
mutual
/-- leaves that are not too great -/
def okL (B : Nat) : PyData → Bool
  | .none | .bool _ => true
  | .int i => decide (i.natAbs < B)
  | .str x => PyData.strOk x
  | .list xs | .tuple xs => okLA B xs
  | .dict kvs => kvs.isEmpty
def okLA (B : Nat) : List PyData → Bool
  | [] => true
  | x :: xs => okL B x && okLA B xs
end
theorem okLA_all {B : Nat} : ∀ xs : List PyData, okLA B xs = xs.all (okL B)
  | [] => rfl
  | x :: xs => by rw [okLA, okLA_all xs]; rfl
theorem okLA_iff {B : Nat} {xs : List PyData} : okLA B xs = true ↔ ∀ x ∈ xs, okL B x = true := by rw [okLA_all, List.all_eq_true]
mutual
theorem okL_mono {B C : Nat} (h : B ≤ C) : ∀ x : PyData, okL B x = true → okL C x = true
  | .none, _ => rfl
  | .bool _, _ => rfl
  | .int i, q => by simp only [okL, decide_eq_true_eq] at q ⊢; omega
  | .str _, q => q
  | .list xs, q => okLA_mono h xs q
  | .tuple xs, q => okLA_mono h xs q
  | .dict _, q => q
theorem okLA_mono {B C : Nat} (h : B ≤ C) : ∀ xs : List PyData, okLA B xs = true → okLA C xs = true
  | [], _ => rfl
  | x :: xs, q => by
    simp only [okLA, Bool.and_eq_true] at q ⊢
    exact ⟨okL_mono h x q.1, okLA_mono h xs q.2⟩
end
theorem int_show_le {i : Int} {n : Nat} (h : i.natAbs < 2 ^ n) (h0 : 0 < n) : (PyData.shown (.int i)).length ≤ n + 1 := by
  show (Str.ofString (toString i)).length ≤ _
  rw [PySem.ofString_length]
  exact int_text_length_le h0 (PySem.Flt.log2_lt_of h0 h)
mutual
theorem okL_show {B : Nat} (h : B ≤ 2 ^ 198) : ∀ x : PyData, okL B x = true → x.showable = true ∧ x.leavesShort 199 = true
  | .none, _ => ⟨rfl, rfl⟩
  | .bool _, _ => ⟨rfl, rfl⟩
  | .int i, q => by
    simp only [okL, decide_eq_true_eq] at q
    have q' := Nat.lt_of_lt_of_le q h
    exact ⟨by simp only [PyData.showable, decide_eq_true_eq]; exact Nat.lt_trans (log2_lt (by decide) q') (by decide), by simp only [PyData.leavesShort, decide_eq_true_eq]; exact int_show_le q' (by decide)⟩
  | .str x, q => by
    refine ⟨rfl, ?_⟩
    simp only [okL, PyData.strOk, Array.all_eq_true] at q
    simp only [PyData.leavesShort, List.all_eq_true, decide_eq_true_eq]
    intro c hc
    obtain ⟨i, hi, rfl⟩ := Array.mem_iff_getElem.mp (Array.mem_toList_iff.mp hc)
    have := q i hi
    simp at this
    exact Nat.lt_trans this (by decide)
  | .list xs, q => okLA_show h xs q
  | .tuple xs, q => okLA_show h xs q
  | .dict [], q => ⟨rfl, rfl⟩
theorem okLA_show {B : Nat} (h : B ≤ 2 ^ 198) : ∀ xs : List PyData, okLA B xs = true → PyData.showableAll xs = true ∧ PyData.leavesShortAll 199 xs = true
  | [], _ => ⟨rfl, rfl⟩
  | x :: xs, q => by
    simp only [okLA, Bool.and_eq_true] at q
    obtain ⟨a, b⟩ := okL_show h x q.1
    obtain ⟨c, d⟩ := okLA_show h xs q.2
    exact ⟨by simp [PyData.showableAll, a, c], by simp [PyData.leavesShortAll, b, d]⟩
end
theorem lay_mem : ∀ {ds : List PyData} {d : PyData}, PyData.canLayAll0 ds = true → d ∈ ds → d.canLay0 = true
  | x :: xs, d, h, m => by
    simp only [PyData.canLayAll0, Bool.and_eq_true] at h
    rcases List.mem_cons.mp m with e | m
    · rw [e]; exact h.1
    · exact lay_mem h.2 m
theorem wAll_app : ∀ xs ys : List PyData, PyData.weightAll (xs ++ ys) = PyData.weightAll xs + PyData.weightAll ys
  | [], ys => by simp [PyData.weightAll]
  | x :: xs, ys => by
    rw [List.cons_append]
    simp only [PyData.weightAll]
    rw [wAll_app xs ys]
    omega
theorem dAll_app : ∀ xs ys : List PyData, PyData.depthAll (xs ++ ys) = max (PyData.depthAll xs) (PyData.depthAll ys)
  | [], ys => by simp [PyData.depthAll]
  | x :: xs, ys => by
    rw [List.cons_append]
    simp only [PyData.depthAll]
    rw [dAll_app xs ys]
    omega
theorem okLA_app {B : Nat} {xs ys : List PyData} : okLA B (xs ++ ys) = (okLA B xs && okLA B ys) := by rw [okLA_all, okLA_all, okLA_all, List.all_append]
/-- a list within sizes -/
structure FnA (B w d : Nat) (xs : List PyData) : Prop where
  o : okLA B xs = true
  w : PyData.weightAll xs ≤ w
  d : PyData.depthAll xs ≤ d
structure Fn (B w d : Nat) (x : PyData) : Prop where
  o : okL B x = true
  w : x.weight ≤ w
  d : x.depth ≤ d
theorem Fn.mono {B w d B' w' d' : Nat} {x : PyData} (h : Fn B w d x) (hB : B ≤ B') (hw : w ≤ w') (hd : d ≤ d') : Fn B' w' d' x := ⟨okL_mono hB x h.o, Nat.le_trans h.w hw, Nat.le_trans h.d hd⟩
theorem FnA.mono {B w d B' w' d' : Nat} {x : List PyData} (h : FnA B w d x) (hB : B ≤ B') (hw : w ≤ w') (hd : d ≤ d') : FnA B' w' d' x := ⟨okLA_mono hB x h.o, Nat.le_trans h.w hw, Nat.le_trans h.d hd⟩
theorem FnA.nil {B w d : Nat} : FnA B w d [] := ⟨rfl, Nat.zero_le _, Nat.zero_le _⟩
theorem FnA.app {B w w' d : Nat} {xs ys : List PyData} (h : FnA B w d xs) (k : FnA B w' d ys) : FnA B (w + w') d (xs ++ ys) :=
  ⟨by rw [okLA_app, h.o, k.o]; rfl, by rw [wAll_app]; exact Nat.add_le_add h.w k.w, by rw [dAll_app]; exact Nat.max_le.mpr ⟨h.d, k.d⟩⟩
theorem FnA.one {B w d : Nat} {x : PyData} (h : Fn B w d x) : FnA B (w + 1) d [x] := ⟨by simp [okLA, h.o], by simp only [PyData.weightAll]; have := h.w; omega, by simp only [PyData.depthAll]; have := h.d; omega⟩
theorem FnA.take {B w d : Nat} {xs : List PyData} (h : FnA B w d xs) (n : Nat) : FnA B w d (xs.take n) := by
  have e := List.take_append_drop n xs
  refine ⟨?_, ?_, ?_⟩
  · have := h.o; rw [← e, okLA_app, Bool.and_eq_true] at this; exact this.1
  · have := h.w; rw [← e, wAll_app] at this; omega
  · have := h.d; rw [← e, dAll_app] at this; omega
theorem FnA.drop {B w d : Nat} {xs : List PyData} (h : FnA B w d xs) (n : Nat) : FnA B w d (xs.drop n) := by
  have e := List.take_append_drop n xs
  refine ⟨?_, ?_, ?_⟩
  · have := h.o; rw [← e, okLA_app, Bool.and_eq_true] at this; exact this.2
  · have := h.w; rw [← e, wAll_app] at this; omega
  · have := h.d; rw [← e, dAll_app] at this; omega
theorem FnA.cut {B w d : Nat} {xs : List PyData} (h : FnA B w d xs) (lo hi : Option Int) : FnA B w d (cut xs lo hi) := (h.drop _).take _
theorem FnA.rev {B w d : Nat} {xs : List PyData} (h : FnA B w d xs) : FnA B w d xs.reverse := by
  have : okLA B xs.reverse = okLA B xs ∧ PyData.weightAll xs.reverse = PyData.weightAll xs ∧ PyData.depthAll xs.reverse = PyData.depthAll xs := by
    induction xs generalizing w d with
    | nil => exact ⟨rfl, rfl, rfl⟩
    | cons x xs ih =>
      obtain ⟨a, b, c⟩ := ih (w := PyData.weightAll xs) (d := PyData.depthAll xs) ⟨by have := h.o; simp only [okLA, Bool.and_eq_true] at this; exact this.2, Nat.le_refl _, Nat.le_refl _⟩
      rw [List.reverse_cons, okLA_app, wAll_app, dAll_app, a, b, c]
      refine ⟨by simp [okLA, Bool.and_comm], ?_, ?_⟩
      · simp only [PyData.weightAll]; omega
      · simp only [PyData.depthAll]; omega
  exact ⟨by rw [this.1]; exact h.o, by rw [this.2.1]; exact h.w, by rw [this.2.2]; exact h.d⟩
theorem FnA.mem {B w d : Nat} {xs : List PyData} (h : FnA B w d xs) {x : PyData} (m : x ∈ xs) : Fn B w d x := by
  obtain ⟨a, b, rfl⟩ := List.append_of_mem m
  refine ⟨?_, ?_, ?_⟩
  · exact okLA_iff.mp h.o x m
  · have := h.w; rw [wAll_app] at this; simp only [PyData.weightAll] at this; omega
  · have := h.d; rw [dAll_app] at this; simp only [PyData.depthAll] at this; omega
theorem FnA.len {B w d : Nat} : ∀ {xs : List PyData}, FnA B w d xs → xs.length ≤ w := by
  intro xs h
  have : ∀ ys : List PyData, ys.length ≤ PyData.weightAll ys := by
    intro ys
    induction ys with
    | nil => exact Nat.le_refl _
    | cons y ys ih => simp only [PyData.weightAll, List.length_cons]; omega
  exact Nat.le_trans (this xs) h.w
theorem FnA.tup {B w d : Nat} {xs : List PyData} (h : FnA B w d xs) : Fn B w (d + 1) (.tuple xs) := ⟨h.o, h.w, by simp only [PyData.depth]; have := h.d; omega⟩
theorem FnA.lst {B w d : Nat} {xs : List PyData} (h : FnA B w d xs) : Fn B w (d + 1) (.list xs) := ⟨h.o, h.w, by simp only [PyData.depth]; have := h.d; omega⟩
theorem Fn.items {B w d : Nat} {xs : List PyData} (h : Fn B w (d + 1) (.tuple xs)) : FnA B w d xs := ⟨h.o, h.w, by have := h.d; simp only [PyData.depth] at this; omega⟩
theorem Fn.pos {B w d : Nat} {xs : List PyData} (h : Fn B w d (.tuple xs)) : 1 ≤ d := by have := h.d; simp only [PyData.depth] at this; omega
theorem cut_to {α : Type} (xs : List α) (k : Nat) : cut xs none (some (k : Int)) = xs.take k := by
  unfold cut
  rw [HT.sIx_none, HT.sIx_nat, List.drop_zero, Nat.sub_zero]
  by_cases h : k ≤ xs.length
  · rw [Nat.min_eq_left h]
  · rw [Nat.min_eq_right (by omega), List.take_length, List.take_of_length_le (by omega)]
theorem cut_from {α : Type} (xs : List α) (k : Nat) : cut xs (some (k : Int)) none = xs.drop k := by
  unfold cut
  rw [HT.sIx_none, HT.sIx_nat]
  by_cases h : k ≤ xs.length
  · rw [Nat.min_eq_left h, List.take_of_length_le (by rw [List.length_drop]; omega)]
  · rw [Nat.min_eq_right (by omega), Nat.sub_self, List.take_zero, List.drop_of_length_le (by omega)]
theorem Fn.show {B w d : Nat} {x : PyData} (h : Fn B w d x) (hB : B ≤ 2 ^ 198) (hw : w ≤ 80000) (hd : d ≤ 100) : showOk x := by
  obtain ⟨a, b⟩ := okL_show hB x h.o
  refine ⟨a, ?_, Nat.le_trans h.d hd⟩
  have e := PyData.shown_le 199 (by decide) x b
  have : (199 + 2) * x.weight ≤ 201 * 80000 := Nat.mul_le_mul_left _ (Nat.le_trans h.w hw)
  rw [sizeLine_eq]
  omega
theorem Fn.int {B w d : Nat} {i : Int} (h : i.natAbs < B) (hB : B ≤ 2 ^ 198) (hw : 198 ≤ w) : Fn B w d (.int i) := by
  refine ⟨by simp [okL, h], ?_, by simp [PyData.depth]⟩
  have := log2_lt (x := i) (by decide) (Nat.lt_of_lt_of_le h hB)
  simp only [PyData.weight]
  split <;> omega
theorem Fn.strW {B w d : Nat} {z : Str} (h : PyData.strOk z = true) (hw : z.length ≤ w) : Fn B w d (.str z) := ⟨h, hw, Nat.zero_le _⟩
theorem strOk_app {x y : Str} (h : PyData.strOk x = true) (k : PyData.strOk y = true) : PyData.strOk (x ++ y) = true := by
  show (x.cps ++ y.cps).all _ = true
  rw [Array.all_append]
  simp only [PyData.strOk] at h k
  rw [h, k]
  rfl
theorem strOk_cut {x : Str} (h : PyData.strOk x = true) (lo hi : Option Int) : PyData.strOk (cutS x lo hi) = true := by
  simp only [PyData.strOk, Array.all_eq_true_iff_forall_mem, decide_eq_true_eq] at h ⊢
  intro c hc
  unfold cutS at hc
  simp only [List.mem_toArray] at hc
  exact h c (Array.mem_toList_iff.mp (List.mem_of_mem_drop (List.mem_of_mem_take hc)))
end Dl
set_option Elab.async false
set_option linter.all false
set_option maxRecDepth 100000
/-! a dict of the text, its keys texts: within -/
namespace Dl
open PySem PySem.Spec PyProof.Rows L2
def chkK : List DictEntry → List Str → Bool
  | [], [] => true
  | e :: r, k :: ks => (match e.key with | .str x _ => x == k | _ => false) && chkK r ks
  | _, _ => false
theorem chkK_ok (z : Str) : ∀ (l : List DictEntry) (ks : List Str), chkK l ks = true → (l.find? (·.key.isStr z)).isSome = ks.contains z ∧ l.any (·.refKey) = false
  | [], [], _ => ⟨rfl, rfl⟩
  | e :: r, [], h => by simp [chkK] at h
  | [], k :: ks, h => by simp [chkK] at h
  | e :: r, k :: ks, h => by
    simp only [chkK, Bool.and_eq_true] at h
    obtain ⟨h1, h2⟩ := chkK_ok z r ks h.2
    obtain ⟨hh, key, val⟩ := e
    cases key with
    | str x t =>
      have hx : x = k := eq_of_beq h.1
      subst hx
      have e1 : (Value.str x t).isStr z = (x == z) := rfl
      constructor
      · rw [List.find?_cons]
        simp only [e1]
        rw [List.contains_cons]
        by_cases q : x = z
        · subst q; simp
        · have q1 : (x == z) = false := beq_eq_false_iff_ne.mpr q
          have q2 : (z == x) = false := beq_eq_false_iff_ne.mpr fun w => q w.symm
          rw [q1, q2, Bool.false_or]
          exact h1
      · rw [List.any_cons, h2]
        rfl
    | _ => exact absurd h.1 (by simp)
structure KTab (g : Gc) (x : Str) (d : Addr) (ks : List Str) : Prop where
  m : g.mg x = some (.ref d)
  k : ∃ es n, KDict g.K g.w d es n
  s : ∀ z, ∃ r, PySem.W.nsIn g.K d z = some r ∧ r.isSome = ks.contains z
theorem ktab_of {g : Gc} {x : Str} {d : Addr} {es : Array DictEntry} {n : Nat} {ks : List Str} (m : g.mg x = some (.ref d)) (at_ : g.K.lookup d = some ⟨.type "dict", none, .dict es n, #[]⟩) (lit : PySem.W.KeysLit g.w.params es.toList) (low : (d == sysModules) = false) (c : chkK es.toList ks = true) : KTab g x d ks := by
  refine ⟨m, ⟨es, n, at_, lit, low⟩, fun z => ?_⟩
  obtain ⟨h1, h2⟩ := chkK_ok z es.toList ks c
  unfold PySem.W.nsIn
  rw [at_]
  simp only
  cases hf : es.toList.find? (·.key.isStr z) with
  | some e => exact ⟨some e.val, rfl, by rw [hf] at h1; exact h1⟩
  | none =>
    rw [if_neg (by rw [h2]; exact Bool.false_ne_true)]
    exact ⟨none, rfl, by rw [hf] at h1; exact h1⟩
section
variable {g : Gc} {i : Si} {k : Nat} {Y : Dx}
def tRef (d : Addr) : TEd := fun _ M Q => Q (.ref d) M
theorem q_ref (F : Fm g i k Y) (j : Nat) {x : Str} {pos : Pos} {d : Addr} {ks : List Str} (C : KTab g x d ks) (hj : i.gls[j]? = some x := by rfl) : QE Y (.Name x pos) (tRef d) := by
  obtain ⟨h1, h2, h3⟩ := F.glo j x hj
  exact ⟨fun s H σ M Q S h => semE_of (pe_glob h1 (by rw [F.hmg]; exact C.m) (show RelV (.ref d) (.ref d) from rfl) h2) (S.here (w := .ref d) rfl h)⟩
def rKd (d : Addr) (ks : List Str) (neg : Bool) : R2d := fun a b M Q => match a, b with
  | .d (.str z), .ref p => p = d ∧ Q (.d (.bool (if neg then !ks.contains z else ks.contains z))) M
  | _, _ => False
theorem o_inK (F : Fm g i k Y) {x : Str} {d : Addr} {ks : List Str} (C : KTab g x d ks) : Op2 Y (compareOp .In) (rKd d ks false) := by
  intro s H σ M x y a b Q S rx ry q
  unfold rKd at q
  split at q
  · obtain ⟨es, n, D⟩ := C.k
    rw [← F.hK, ← F.hw] at D
    obtain ⟨rfl, q⟩ := q
    obtain ⟨r, e, er⟩ := C.s _
    refine semO_of (op_in_kd D) ⟨_, r, rx.str, ry, by rw [F.hK]; exact e, ?_⟩
    rw [er]
    exact S.here (wBool _) q
  · exact q.elim
theorem o_notInK (F : Fm g i k Y) {x : Str} {d : Addr} {ks : List Str} (C : KTab g x d ks) : Op2 Y (compareOp .NotIn) (rKd d ks true) := by
  intro s H σ M x y a b Q S rx ry q
  unfold rKd at q
  split at q
  · obtain ⟨es, n, D⟩ := C.k
    rw [← F.hK, ← F.hw] at D
    obtain ⟨rfl, q⟩ := q
    obtain ⟨r, e, er⟩ := C.s _
    refine semO_of (op_notIn_kd D) ⟨_, r, rx.str, ry, by rw [F.hK]; exact e, ?_⟩
    rw [er]
    exact S.here (wBool _) q
  · exact q.elim
end
end Dl
set_option Elab.async false
set_option linter.all false
set_option maxRecDepth 100000
namespace Ms
open PySem PySem.Spec PyProof.Rows L2 Dl
def topS (i : Nat) : Stmt := PySem.Challenge.pw_askround_k05_conditions_known.main.body.getD i (.Pass ⟨0, 0, 0, 0⟩)
def k_MOST_NUMBER : PyData := .int (1000000)
def k_WORDS : PyData := .tuple [(.str "ask"), (.str "pick"), (.str "some"), (.str "count"), (.str "if"), (.str "else"), (.str "end"), (.str "part"), (.str "leave"), (.str "each"), (.str "hard"), (.str "soft"), (.str "is"), (.str "has"), (.str "from"), (.str "to"), (.str "not"), (.str "and"), (.str "or"), (.str "any"), (.str "every")]
def k_MOST_LETTERS : PyData := .int (8)
def k_LETTERS : PyData := .str "abcdefghijklmnopqrstuvwxyz"
def k_MOST_PARTS : PyData := .int (6)
def k_MOST_DEEP : PyData := .int (6)
def k_MOST_PIECES : PyData := .int (30)
abbrev s_is_whole : Stmt := topS 5
def i_is_whole : Si := ⟨defScope s_is_whole, ["thing"], [0], [0], [], ["isinstance", "int", "bool"]⟩
theorem sc_is_whole : FnScope i_is_whole.N ["thing"] (defScope s_is_whole) := ⟨rfl, rfl, rfl, by decide +kernel, rfl, by decide +kernel, by decide +kernel⟩
theorem ok_is_whole : ScOk i_is_whole (defScope s_is_whole) := ⟨rfl, by decide +kernel, by decide +kernel, by decide +kernel, by decide +kernel⟩
abbrev s_is_within : Stmt := topS 6
def i_is_within : Si := ⟨defScope s_is_within, ["thing", "low", "high"], [0, 1, 2], [0, 1, 2], [], ["is_whole"]⟩
theorem sc_is_within : FnScope i_is_within.N ["thing", "low", "high"] (defScope s_is_within) := ⟨rfl, rfl, rfl, by decide +kernel, rfl, by decide +kernel, by decide +kernel⟩
theorem ok_is_within : ScOk i_is_within (defScope s_is_within) := ⟨rfl, by decide +kernel, by decide +kernel, by decide +kernel, by decide +kernel⟩
abbrev s_is_number : Stmt := topS 7
def i_is_number : Si := ⟨defScope s_is_number, ["thing"], [0], [0], [], ["is_within", "MOST_NUMBER"]⟩
theorem sc_is_number : FnScope i_is_number.N ["thing"] (defScope s_is_number) := ⟨rfl, rfl, rfl, by decide +kernel, rfl, by decide +kernel, by decide +kernel⟩
theorem ok_is_number : ScOk i_is_number (defScope s_is_number) := ⟨rfl, by decide +kernel, by decide +kernel, by decide +kernel, by decide +kernel⟩
abbrev s_is_name : Stmt := topS 8
def i_is_name : Si := ⟨defScope s_is_name, ["thing", "sign"], [0], [0], [], ["all", "WORDS", "isinstance", "str", "MOST_LETTERS", "len"]⟩
theorem sc_is_name : FnScope i_is_name.N ["thing"] (defScope s_is_name) := ⟨rfl, rfl, rfl, by decide +kernel, rfl, by decide +kernel, by decide +kernel⟩
theorem ok_is_name : ScOk i_is_name (defScope s_is_name) := ⟨rfl, by decide +kernel, by decide +kernel, by decide +kernel, by decide +kernel⟩
abbrev s_is_piece : Stmt := topS 18
def i_is_piece : Si := ⟨defScope s_is_piece, ["thing"], [0], [0], [], ["is_number", "PIECES", "is_name", "len"]⟩
theorem sc_is_piece : FnScope i_is_piece.N ["thing"] (defScope s_is_piece) := ⟨rfl, rfl, rfl, by decide +kernel, rfl, by decide +kernel, by decide +kernel⟩
theorem ok_is_piece : ScOk i_is_piece (defScope s_is_piece) := ⟨rfl, by decide +kernel, by decide +kernel, by decide +kernel, by decide +kernel⟩
abbrev s_pieces_of_parts : Stmt := topS 19
def i_pieces_of_parts : Si := ⟨defScope s_pieces_of_parts, ["parts", "deep", "within", "found", "part"], [0, 1, 2, 3], [0, 3], [1, 2], ["sum", "isinstance", "tuple", "MOST_PARTS", "len"]⟩
theorem sc_pieces_of_parts : FnScope i_pieces_of_parts.N ["parts", "deep", "within"] (defScope s_pieces_of_parts) := ⟨rfl, rfl, rfl, by decide +kernel, rfl, by decide +kernel, by decide +kernel⟩
theorem ok_pieces_of_parts : ScOk i_pieces_of_parts (defScope s_pieces_of_parts) := ⟨rfl, by decide +kernel, by decide +kernel, by decide +kernel, by decide +kernel⟩
abbrev s_pieces_in : Stmt := topS 20
def i_pieces_in : Si := ⟨defScope s_pieces_in, ["thing", "deep", "within"], [0, 1, 2], [0, 1, 2], [], ["is_piece", "pieces_in", "pieces_of_parts", "is_name", "isinstance", "tuple", "str", "len"]⟩
theorem sc_pieces_in : FnScope i_pieces_in.N ["thing", "deep", "within"] (defScope s_pieces_in) := ⟨rfl, rfl, rfl, by decide +kernel, rfl, by decide +kernel, by decide +kernel⟩
theorem ok_pieces_in : ScOk i_pieces_in (defScope s_pieces_in) := ⟨rfl, by decide +kernel, by decide +kernel, by decide +kernel, by decide +kernel⟩
abbrev s_is_condition : Stmt := topS 21
def i_is_condition : Si := ⟨defScope s_is_condition, ["thing", "found"], [0, 1], [0, 1], [], ["pieces_in", "MOST_DEEP", "MOST_PIECES"]⟩
theorem sc_is_condition : FnScope i_is_condition.N ["thing"] (defScope s_is_condition) := ⟨rfl, rfl, rfl, by decide +kernel, rfl, by decide +kernel, by decide +kernel⟩
theorem ok_is_condition : ScOk i_is_condition (defScope s_is_condition) := ⟨rfl, by decide +kernel, by decide +kernel, by decide +kernel, by decide +kernel⟩
abbrev s_L_pot : Stmt := topS 23
def i_L_pot : Si := ⟨defScope s_L_pot, ["_law_script", "_law_k", "_law_cell"], [0, 1, 2], [0, 1, 2], [], ["len", "abs", "int"]⟩
theorem sc_L_pot : FnScope i_L_pot.N ["_law_script", "_law_k"] (defScope s_L_pot) := ⟨rfl, rfl, rfl, by decide +kernel, rfl, by decide +kernel, by decide +kernel⟩
theorem ok_L_pot : ScOk i_L_pot (defScope s_L_pot) := ⟨rfl, by decide +kernel, by decide +kernel, by decide +kernel, by decide +kernel⟩
abbrev s_L_take : Stmt := topS 24
def i_L_take : Si := ⟨defScope s_L_take, ["_law_pot_here", "_law_many", "_law_found", "_law_one", "_law_other"], [0, 1, 2, 3, 4], [0, 1, 2, 3, 4], [], []⟩
theorem sc_L_take : FnScope i_L_take.N ["_law_pot_here", "_law_many"] (defScope s_L_take) := ⟨rfl, rfl, rfl, by decide +kernel, rfl, by decide +kernel, by decide +kernel⟩
theorem ok_L_take : ScOk i_L_take (defScope s_L_take) := ⟨rfl, by decide +kernel, by decide +kernel, by decide +kernel, by decide +kernel⟩
abbrev s_L_words : Stmt := topS 25
def i_L_words : Si := ⟨defScope s_L_words, [], [], [], [], []⟩
theorem sc_L_words : FnScope i_L_words.N [] (defScope s_L_words) := ⟨rfl, rfl, rfl, by decide +kernel, rfl, by decide +kernel, by decide +kernel⟩
theorem ok_L_words : ScOk i_L_words (defScope s_L_words) := ⟨rfl, by decide +kernel, by decide +kernel, by decide +kernel, by decide +kernel⟩
abbrev s_L_name : Stmt := topS 26
def i_L_name : Si := ⟨defScope s_L_name, ["_law_pot_here", "_law_letters", "_law_name_here", "_law_turn"], [0, 1, 2, 3], [0, 1, 2, 3], [], ["range", "_law_take", "_law_words"]⟩
theorem sc_L_name : FnScope i_L_name.N ["_law_pot_here"] (defScope s_L_name) := ⟨rfl, rfl, rfl, by decide +kernel, rfl, by decide +kernel, by decide +kernel⟩
theorem ok_L_name : ScOk i_L_name (defScope s_L_name) := ⟨rfl, by decide +kernel, by decide +kernel, by decide +kernel, by decide +kernel⟩
abbrev s_L_is_name : Stmt := topS 27
def i_L_is_name : Si := ⟨defScope s_L_is_name, ["_law_thing", "_law_sign"], [0], [0], [], ["isinstance", "str", "_law_words", "len"]⟩
theorem sc_L_is_name : FnScope i_L_is_name.N ["_law_thing"] (defScope s_L_is_name) := ⟨rfl, rfl, rfl, by decide +kernel, rfl, by decide +kernel, by decide +kernel⟩
theorem ok_L_is_name : ScOk i_L_is_name (defScope s_L_is_name) := ⟨rfl, by decide +kernel, by decide +kernel, by decide +kernel, by decide +kernel⟩
abbrev s_L_is_within : Stmt := topS 28
def i_L_is_within : Si := ⟨defScope s_L_is_within, ["_law_thing", "_law_low", "_law_high"], [0, 1, 2], [0, 1, 2], [], ["isinstance", "int", "bool"]⟩
theorem sc_L_is_within : FnScope i_L_is_within.N ["_law_thing", "_law_low", "_law_high"] (defScope s_L_is_within) := ⟨rfl, rfl, rfl, by decide +kernel, rfl, by decide +kernel, by decide +kernel⟩
theorem ok_L_is_within : ScOk i_L_is_within (defScope s_L_is_within) := ⟨rfl, by decide +kernel, by decide +kernel, by decide +kernel, by decide +kernel⟩
abbrev s_L_odd : Stmt := topS 29
def i_L_odd : Si := ⟨defScope s_L_odd, ["_law_pot_here"], [0], [0], [], ["_law_take"]⟩
theorem sc_L_odd : FnScope i_L_odd.N ["_law_pot_here"] (defScope s_L_odd) := ⟨rfl, rfl, rfl, by decide +kernel, rfl, by decide +kernel, by decide +kernel⟩
theorem ok_L_odd : ScOk i_L_odd (defScope s_L_odd) := ⟨rfl, by decide +kernel, by decide +kernel, by decide +kernel, by decide +kernel⟩
abbrev s_L_bent : Stmt := topS 30
def i_L_bent : Si := ⟨defScope s_L_bent, ["_law_pot_here", "_law_thing", "_law_deep", "_law_way", "_law_odd_here", "_law_at", "_law_sign", "_law_some"], [0, 1, 2, 3, 4, 5, 6, 7], [0, 1, 2, 3, 4, 5, 6, 7], [], ["_law_take", "_law_odd", "isinstance", "str", "tuple", "max", "bool", "len", "list", "int", "_law_bent"]⟩
theorem sc_L_bent : FnScope i_L_bent.N ["_law_pot_here", "_law_thing", "_law_deep"] (defScope s_L_bent) := ⟨rfl, rfl, rfl, by decide +kernel, rfl, by decide +kernel, by decide +kernel⟩
theorem ok_L_bent : ScOk i_L_bent (defScope s_L_bent) := ⟨rfl, by decide +kernel, by decide +kernel, by decide +kernel, by decide +kernel⟩
abbrev s_L_names : Stmt := topS 31
def i_L_names : Si := ⟨defScope s_L_names, ["_law_pot_here", "_law_found", "_law_turn", "_law_name_here", "_law_other"], [0, 1, 2, 3], [0, 2, 3], [1], ["range", "_law_name"]⟩
theorem sc_L_names : FnScope i_L_names.N ["_law_pot_here"] (defScope s_L_names) := ⟨rfl, rfl, rfl, by decide +kernel, rfl, by decide +kernel, by decide +kernel⟩
theorem ok_L_names : ScOk i_L_names (defScope s_L_names) := ⟨rfl, by decide +kernel, by decide +kernel, by decide +kernel, by decide +kernel⟩
abbrev s_L_piece : Stmt := topS 32
def i_L_piece : Si := ⟨defScope s_L_piece, ["_law_pot_here", "_law_names_here", "_law_name_here", "_law_option", "_law_way"], [0, 1, 2, 3, 4], [0, 1, 2, 3, 4], [], ["_law_take", "len"]⟩
theorem sc_L_piece : FnScope i_L_piece.N ["_law_pot_here", "_law_names_here"] (defScope s_L_piece) := ⟨rfl, rfl, rfl, by decide +kernel, rfl, by decide +kernel, by decide +kernel⟩
theorem ok_L_piece : ScOk i_L_piece (defScope s_L_piece) := ⟨rfl, by decide +kernel, by decide +kernel, by decide +kernel, by decide +kernel⟩
abbrev s_L_drawn : Stmt := topS 33
def i_L_drawn : Si := ⟨defScope s_L_drawn, ["_law_pot_here", "_law_names_here", "_law_deep", "_law_most", "_law_within", "_law_way", "_law_inner", "_law_used", "_law_parts", "_law_total", "_law_many", "_law_k"], [0, 1, 2, 3, 4, 5, 6, 7, 8, 9, 10, 11], [0, 1, 2, 3, 4, 5, 6, 7, 8, 9, 10, 11], [], ["_law_take", "min", "range", "_law_drawn", "_law_piece", "tuple", "len"]⟩
theorem sc_L_drawn : FnScope i_L_drawn.N ["_law_pot_here", "_law_names_here", "_law_deep", "_law_most", "_law_within"] (defScope s_L_drawn) := ⟨rfl, rfl, rfl, by decide +kernel, rfl, by decide +kernel, by decide +kernel⟩
theorem ok_L_drawn : ScOk i_L_drawn (defScope s_L_drawn) := ⟨rfl, by decide +kernel, by decide +kernel, by decide +kernel, by decide +kernel⟩
abbrev s_L_condition : Stmt := topS 34
def i_L_condition : Si := ⟨defScope s_L_condition, ["_law_pot_here", "_law_names_here"], [0, 1], [0, 1], [], ["_law_drawn", "_law_take"]⟩
theorem sc_L_condition : FnScope i_L_condition.N ["_law_pot_here", "_law_names_here"] (defScope s_L_condition) := ⟨rfl, rfl, rfl, by decide +kernel, rfl, by decide +kernel, by decide +kernel⟩
theorem ok_L_condition : ScOk i_L_condition (defScope s_L_condition) := ⟨rfl, by decide +kernel, by decide +kernel, by decide +kernel, by decide +kernel⟩
abbrev s_L_pieces : Stmt := topS 35
def i_L_pieces : Si := ⟨defScope s_L_pieces, ["_law_thing", "_law_deep", "_law_within", "_law_part"], [0, 1, 2], [0], [1, 2], ["min", "_law_is_name", "_law_pieces", "sum", "isinstance", "tuple", "len", "str", "_law_is_within"]⟩
theorem sc_L_pieces : FnScope i_L_pieces.N ["_law_thing", "_law_deep", "_law_within"] (defScope s_L_pieces) := ⟨rfl, rfl, rfl, by decide +kernel, rfl, by decide +kernel, by decide +kernel⟩
theorem ok_L_pieces : ScOk i_L_pieces (defScope s_L_pieces) := ⟨rfl, by decide +kernel, by decide +kernel, by decide +kernel, by decide +kernel⟩
abbrev s_L_is_condition : Stmt := topS 36
def i_L_is_condition : Si := ⟨defScope s_L_is_condition, ["_law_thing"], [0], [0], [], ["_law_pieces"]⟩
theorem sc_L_is_condition : FnScope i_L_is_condition.N ["_law_thing"] (defScope s_L_is_condition) := ⟨rfl, rfl, rfl, by decide +kernel, rfl, by decide +kernel, by decide +kernel⟩
theorem ok_L_is_condition : ScOk i_L_is_condition (defScope s_L_is_condition) := ⟨rfl, by decide +kernel, by decide +kernel, by decide +kernel, by decide +kernel⟩
abbrev s_L_wrapped : Stmt := topS 37
def i_L_wrapped : Si := ⟨defScope s_L_wrapped, ["_law_pot_here", "_law_piece_here", "_law_found", "_law_deep", "_law_once", "_law_turn", "_law_way"], [0, 1, 2, 3, 4, 5, 6], [0, 1, 2, 3, 4, 5, 6], [], ["_law_take", "range"]⟩
theorem sc_L_wrapped : FnScope i_L_wrapped.N ["_law_pot_here", "_law_piece_here"] (defScope s_L_wrapped) := ⟨rfl, rfl, rfl, by decide +kernel, rfl, by decide +kernel, by decide +kernel⟩
theorem ok_L_wrapped : ScOk i_L_wrapped (defScope s_L_wrapped) := ⟨rfl, by decide +kernel, by decide +kernel, by decide +kernel, by decide +kernel⟩
abbrev s_L_fixed : Stmt := topS 38
def i_L_fixed : Si := ⟨defScope s_L_fixed, ["_law_piece_here", "_law_deep", "_law_turn", "_law_six", "_law_five", "_law_found"], [0, 1, 2, 3, 4, 5], [0, 1, 2, 3, 4, 5], [], ["range"]⟩
theorem sc_L_fixed : FnScope i_L_fixed.N ["_law_piece_here"] (defScope s_L_fixed) := ⟨rfl, rfl, rfl, by decide +kernel, rfl, by decide +kernel, by decide +kernel⟩
theorem ok_L_fixed : ScOk i_L_fixed (defScope s_L_fixed) := ⟨rfl, by decide +kernel, by decide +kernel, by decide +kernel, by decide +kernel⟩
abbrev s_law : Stmt := topS 39
def i_law : Si := ⟨defScope s_law, ["_law_script", "_law_k", "_law_pot_here", "_law_names_here", "_law_condition_here", "_law_things", "_law_thing", "_law_shown", "_law_found", "_law_turn"], [0, 1, 2, 3, 4, 5, 6, 7, 8], [0, 1, 3, 5, 6, 7, 8], [2, 4], ["range", "max", "_law_pot", "_law_names", "_law_condition", "_law_wrapped", "min", "is_condition", "_law_piece", "_law_fixed", "repr", "len", "isinstance", "bool", "_law_is_condition"]⟩
theorem sc_law : FnScope i_law.N ["_law_script"] (defScope s_law) := ⟨rfl, rfl, rfl, by decide +kernel, rfl, by decide +kernel, by decide +kernel⟩
theorem ok_law : ScOk i_law (defScope s_law) := ⟨rfl, by decide +kernel, by decide +kernel, by decide +kernel, by decide +kernel⟩
/-- what the top leaves -/
structure Txt (g : Gc) : Prop where
  sy : SysOk g.base
  p_is_whole : Pl g "is_whole" s_is_whole
  p_is_within : Pl g "is_within" s_is_within
  p_is_number : Pl g "is_number" s_is_number
  p_is_name : Pl g "is_name" s_is_name
  p_is_piece : Pl g "is_piece" s_is_piece
  p_pieces_of_parts : Pl g "pieces_of_parts" s_pieces_of_parts
  p_pieces_in : Pl g "pieces_in" s_pieces_in
  p_is_condition : Pl g "is_condition" s_is_condition
  p_L_pot : Pl g "_law_pot" s_L_pot
  p_L_take : Pl g "_law_take" s_L_take
  p_L_words : Pl g "_law_words" s_L_words
  p_L_name : Pl g "_law_name" s_L_name
  p_L_is_name : Pl g "_law_is_name" s_L_is_name
  p_L_is_within : Pl g "_law_is_within" s_L_is_within
  p_L_odd : Pl g "_law_odd" s_L_odd
  p_L_bent : Pl g "_law_bent" s_L_bent
  p_L_names : Pl g "_law_names" s_L_names
  p_L_piece : Pl g "_law_piece" s_L_piece
  p_L_drawn : Pl g "_law_drawn" s_L_drawn
  p_L_condition : Pl g "_law_condition" s_L_condition
  p_L_pieces : Pl g "_law_pieces" s_L_pieces
  p_L_is_condition : Pl g "_law_is_condition" s_L_is_condition
  p_L_wrapped : Pl g "_law_wrapped" s_L_wrapped
  p_L_fixed : Pl g "_law_fixed" s_L_fixed
  p_law : Pl g "law" s_law
  n_isinstance : g.mg "isinstance" = none
  n_int : g.mg "int" = none
  n_bool : g.mg "bool" = none
  n_all : g.mg "all" = none
  n_str : g.mg "str" = none
  n_len : g.mg "len" = none
  n_sum : g.mg "sum" = none
  n_tuple : g.mg "tuple" = none
  n_abs : g.mg "abs" = none
  n_range : g.mg "range" = none
  n_max : g.mg "max" = none
  n_list : g.mg "list" = none
  n_min : g.mg "min" = none
  n_repr : g.mg "repr" = none
  c_MOST_NUMBER : Cst g "MOST_NUMBER" k_MOST_NUMBER
  c_WORDS : Cst g "WORDS" k_WORDS
  c_MOST_LETTERS : Cst g "MOST_LETTERS" k_MOST_LETTERS
  c_LETTERS : Cst g "LETTERS" k_LETTERS
  c_PIECES : ∃ d, KTab g "PIECES" d ["is", "has", "from", "to"]
  c_MOST_PARTS : Cst g "MOST_PARTS" k_MOST_PARTS
  c_MOST_DEEP : Cst g "MOST_DEEP" k_MOST_DEEP
  c_MOST_PIECES : Cst g "MOST_PIECES" k_MOST_PIECES
/-- a function of one datum -/
def sp1 (C : PyData → Prop) (f : PyData → PyData) : SpD := fun ws M Q _ => ∃ x, ws = [.d x] ∧ C x ∧ Q (.d (f x)) M
theorem sp1_len {C f} : ∀ ws M Q E, sp1 C f ws M Q E → ws.length = 1 := by rintro _ _ _ _ ⟨x, rfl, _⟩; rfl
def sp0 (d : PyData) : SpD := fun ws M Q _ => ws = [] ∧ Q (.d d) M
theorem sp0_len {d} : ∀ ws M Q E, sp0 d ws M Q E → ws.length = 0 := by rintro _ _ _ _ ⟨rfl, _⟩; rfl
/-- a whole number within bounds -/
def spWithin (f : PyData → Int → Int → PyData) : SpD := fun ws M Q _ => ∃ x a b, ws = [.d x, .d (.int a), .d (.int b)] ∧ Q (.d (f x a b)) M
theorem spWithin_len {f} : ∀ ws M Q E, spWithin f ws M Q E → ws.length = 3 := by rintro _ _ _ _ ⟨x, a, b, rfl, _⟩; rfl
theorem qcast {Q : W → MH → Prop} {M : MH} {a b : Bool} (h : Q (.d (.bool a)) M) (e : a = b) : Q (.d (.bool b)) M := by rw [← e]; exact h
def isWhole : PyData → Bool | .int _ => true | _ => false
def isWithin (x : PyData) (a b : Int) : Bool := match x with | .int n => decide (a ≤ n) && decide (n ≤ b) | _ => false
def wordsD : List PyData := [.str "ask", .str "pick", .str "some", .str "count", .str "if", .str "else", .str "end", .str "part", .str "leave", .str "each", .str "hard", .str "soft", .str "is", .str "has", .str "from", .str "to", .str "not", .str "and", .str "or", .str "any", .str "every"]
/-- a small letter -/
def isLow (c : Nat) : Bool := decide (97 ≤ c) && decide (c ≤ 122)
def lowW : W → Bool
  | .d (.str z) => (match z.cps.toList with | [c] => isLow c | _ => false)
  | _ => false
def unW : W → PyData
  | .d x => x
  | _ => .none
theorem lowW_one (c : Nat) : lowW (.d (.str ⟨#[c]⟩)) = isLow c := rfl
def isNameS (z : Str) : Bool := decide (1 ≤ z.length) && decide (z.length ≤ 8) && !inD (.str z) wordsD && z.cps.toList.all isLow
def isName : PyData → Bool | .str z => isNameS z | _ => false
def okT (x : PyData) : Prop := okL (2 ^ 198) x = true ∧ x.weight ≤ 16000000
theorem d_is_whole {g : Gc} (T : Txt g) : Df g 1 "is_whole" ["thing"] (sp1 (fun _ => True) fun x => .bool (isWhole x)) := by
  refine df_of (k := 0) (i := i_is_whole) T.p_is_whole T.sy sc_is_whole ok_is_whole (fun _ _ _ _ _ _ us hl => match us, hl with | [_], _ => rfl) ?_ (fun Y ws M Q E F hE h => ?_)
  · exact sp1_len
  · obtain ⟨x, rfl, _, h⟩ := h
    refine ⟨_, (ss_one (s_ret (q_and (q_isi F 0 1 isk_int T.n_isinstance T.n_int (by decide +kernel) (q_var F 0)) (q_one (q_not (q_isi F 0 2 isk_bool T.n_isinstance T.n_bool (by decide +kernel) (q_var F 0))))))), ?_⟩
    cases x <;> exact h
theorem d_is_within {g : Gc} (T : Txt g) : Df g 2 "is_within" ["thing", "low", "high"] (spWithin fun x a b => .bool (isWithin x a b)) := by
  refine df_of (k := 1) (i := i_is_within) T.p_is_within T.sy sc_is_within ok_is_within (fun _ _ _ _ _ _ us hl => match us, hl with | [_, _, _], _ => rfl) ?_ (fun Y ws M Q E F hE h => ?_)
  · exact spWithin_len
  · obtain ⟨x, a, b, rfl, h⟩ := h
    refine ⟨_, (ss_one (s_ret (q_and (q_call F 0 (d_is_whole T) (a_cons (q_var F 0) a_nil)) (q_one (q_chn o_le o_le (q_var F 1) (q_var F 0) (q_var F 2)))))), ?_⟩
    refine ⟨x, rfl, trivial, ?_⟩
    cases x with
    | int n =>
      refine ifD (fun h1 => ?_) (fun h1 => ?_)
      · exact qcast h (by simp [isWithin, show a ≤ n from h1])
      · exact qcast h (by simp [isWithin, show ¬ a ≤ n from h1])
    | _ => exact h
theorem d_is_number {g : Gc} (T : Txt g) : Df g 3 "is_number" ["thing"] (sp1 (fun _ => True) fun x => .bool (isWithin x 0 1000000)) := by
  refine df_of (k := 2) (i := i_is_number) T.p_is_number T.sy sc_is_number ok_is_number (fun _ _ _ _ _ _ us hl => match us, hl with | [_], _ => rfl) ?_ (fun Y ws M Q E F hE h => ?_)
  · exact sp1_len
  · obtain ⟨x, rfl, _, h⟩ := h
    exact ⟨_, (ss_one (s_ret (q_call F 0 (d_is_within T) (a_cons (q_var F 0) (a_cons q_int (a_cons (q_cst F 1 T.c_MOST_NUMBER) a_nil)))))), x, 0, 1000000, rfl, h⟩
theorem d_L_is_within {g : Gc} (T : Txt g) : Df g 1 "_law_is_within" ["_law_thing", "_law_low", "_law_high"] (spWithin fun x a b => .bool (isWithin x a b)) := by
  refine df_of (k := 0) (i := i_L_is_within) T.p_L_is_within T.sy sc_L_is_within ok_L_is_within (fun _ _ _ _ _ _ us hl => match us, hl with | [_, _, _], _ => rfl) ?_ (fun Y ws M Q E F hE h => ?_)
  · exact spWithin_len
  · obtain ⟨x, a, b, rfl, h⟩ := h
    refine ⟨_, (ss_one (s_ret (q_and (q_isi F 0 1 isk_int T.n_isinstance T.n_int (by decide +kernel) (q_var F 0)) (q_and (q_not (q_isi F 0 2 isk_bool T.n_isinstance T.n_bool (by decide +kernel) (q_var F 0))) (q_one (q_chn o_le o_le (q_var F 1) (q_var F 0) (q_var F 2))))))), ?_⟩
    cases x with
    | int n =>
      refine ifD (fun h1 => ?_) (fun h1 => ?_)
      · exact qcast h (by simp [isWithin, show a ≤ n from h1])
      · exact qcast h (by simp [isWithin, show ¬ a ≤ n from h1])
    | _ => exact h
theorem low_in (c : Nat) : within ⟨#[c]⟩ "abcdefghijklmnopqrstuvwxyz" = isLow c := by
  rw [within_one]
  unfold isLow
  rw [← Bool.decide_and]
  apply decide_eq_decide.mpr
  have e : ("abcdefghijklmnopqrstuvwxyz" : Str).cps.toList = List.range' 97 26 := by decide +kernel
  rw [e, List.mem_range'_1]
  omega
theorem words_lay : PyData.canLayAll0 wordsD = true := by decide +kernel
theorem words_depth : PyData.depthAll wordsD ≤ 1 := by decide +kernel
theorem in_words {z : Str} (h : (PyData.str z).canLay0 = true) : inOk (.str z) wordsD = true := by
  unfold inOk
  rw [words_lay, h]
  have := words_depth
  simp
  omega
theorem d_is_name {g : Gc} (T : Txt g) : Df g 1 "is_name" ["thing"] (sp1 okT fun x => .bool (isName x)) := by
  refine df_of (k := 0) (i := i_is_name) T.p_is_name T.sy sc_is_name ok_is_name (fun _ _ _ _ _ _ us hl => match us, hl with | [_], _ => rfl) ?_ (fun Y ws M Q E F hE h => ?_)
  · exact sp1_len
  · obtain ⟨x, rfl, hx, h⟩ := h
    refine ⟨_, (ss_cons (s_if (QW.pt (w_or (t_not (t_val (q_isi F 2 3 isk_str T.n_isinstance T.n_str (by decide +kernel) (q_var F 0)))) (w_or (t_not (t_chn o_le o_le q_int (q_callB F 5 c_len T.n_len (by decide +kernel) (a_cons (q_var F 0) a_nil)) (q_cst F 4 T.c_MOST_LETTERS))) (w_or1 (t_cmp (o_in F) (q_var F 0) (q_cst F 1 T.c_WORDS)))))) (ss_one (s_ret q_bool)) ss_nil) (ss_one (s_ret (q_callB F 0 (c_all F) T.n_all (by decide +kernel) (a_cons (q_lc (own := [("sign", 1)]) F ⟨_, ["thing", "sign"], [1], [1], [], ["LETTERS"]⟩ (.one 1) ⟨rfl, rfl, ⟨rfl, by decide +kernel, by decide +kernel, by decide +kernel, by decide +kernel⟩, by decide +kernel, by decide +kernel⟩ (by decide) (i_str (q_var F 0)) (fun _ F hw => ⟨(pgN F 1), ts_nil, (q_cmp o_inS (q_var F 1) (q_cst F 0 T.c_LETTERS))⟩)) a_nil))))), ?_⟩
    cases x with
    | str z =>
      have hz : small z.length := small_of (Nat.le_trans hx.2 (by decide))
      have no : isName (.str z) = false → Q (.d (.bool false)) M := fun e => qcast h e
      by_cases h1 : (1 : Int) ≤ (z.length : Int)
      case neg =>
        refine ⟨hz, ?_⟩
        refine ifD (fun c => absurd c h1) (fun _ => ?_)
        exact no (by simp [isName, isNameS]; omega)
      refine ⟨hz, ?_⟩
      refine ifD (fun _ => ?_) (fun c => absurd h1 c)
      dsimp only [tK, rInt0, k_MOST_LETTERS]
      by_cases h2 : (z.length : Int) ≤ 8
      case neg =>
        refine bqc false (decide_eq_false h2) ?_
        exact no (by simp [isName, isNameS]; omega)
      refine bqc true (decide_eq_true h2) ?_
      refine ⟨in_words hx.1, ?_⟩
      cases hw : inD (.str z) wordsD with
      | true =>
        refine bqc true hw ?_
        exact no (by simp [isName, isNameS, hw])
      | false =>
        refine bqc false hw ?_
        refine lcA (T := .one 1) (fun w => .bool (lowW w)) ?_ (fun _ _ _ => trivial) ?_ ?_
        · simp [Dl.signs]
          exact Nat.le_trans hx.2 (by decide)
        · intro w hw M2 _ R r
          obtain ⟨c, rfl⟩ : ∃ c, w = .d (.str ⟨#[c]⟩) := by
            unfold Dl.signs at hw
            obtain ⟨c, _, e⟩ := List.mem_map.mp hw
            exact ⟨c, e.symm⟩
          exact cast (congrArg (fun b => R (.d (.bool b)) M2) (low_in c).symm) r
        · dsimp only [tNilA, Dl.rAll]
          have e : (Dl.signs z).map (fun w => PyData.bool (lowW w)) = (z.cps.toList.map isLow).map PyData.bool := by
            unfold Dl.signs
            rw [List.map_map, List.map_map]
            rfl
          rw [e, bools_map]
          refine qcast h ?_
          have h1' : 1 ≤ z.length := by omega
          have h2' : z.length ≤ 8 := by omega
          simp [isName, isNameS, hw, h1', h2']
    | _ => exact h
theorem sa : ("a" : Str).cps.toList = [97] := by decide +kernel
theorem sz : ("z" : Str).cps.toList = [122] := by decide +kernel
theorem low_le (c : Nat) : (!decide (([c] : List Nat) < [97]) && !decide (([122] : List Nat) < [c])) = isLow c := by
  unfold isLow
  have e1 : ([c] < [97]) ↔ c < 97 := by rw [List.cons_lt_cons_iff]; exact ⟨fun h => h.elim id fun h => absurd h.2 (List.not_lt_nil _), .inl⟩
  have e2 : ([122] < [c]) ↔ 122 < c := by rw [List.cons_lt_cons_iff]; exact ⟨fun h => h.elim id fun h => absurd h.2 (List.not_lt_nil _), .inl⟩
  rw [show decide (([c] : List Nat) < [97]) = decide (c < 97) from decide_eq_decide.mpr e1, show decide (([122] : List Nat) < [c]) = decide (122 < c) from decide_eq_decide.mpr e2]
  by_cases a : c < 97 <;> by_cases b : 122 < c <;> simp [a, b] <;> omega
theorem d_L_words {g : Gc} (T : Txt g) : Df g 1 "_law_words" [] (sp0 (.list wordsD)) := by
  refine df_of (k := 0) (i := i_L_words) T.p_L_words T.sy sc_L_words ok_L_words (fun _ _ _ _ _ _ us hl => match us, hl with | [], _ => rfl) ?_ (fun Y ws M Q E F hE h => ?_)
  · exact sp0_len
  · obtain ⟨rfl, h⟩ := h
    exact ⟨_, (ss_one (s_ret (q_lst (a_cons q_str (a_cons q_str (a_cons q_str (a_cons q_str (a_cons q_str (a_cons q_str (a_cons q_str (a_cons q_str (a_cons q_str (a_cons q_str (a_cons q_str (a_cons q_str (a_cons q_str (a_cons q_str (a_cons q_str (a_cons q_str (a_cons q_str (a_cons q_str (a_cons q_str (a_cons q_str (a_cons q_str a_nil)))))))))))))))))))))))), sm21, h⟩
theorem one_lay {l : List Nat} (h : ∀ c ∈ l, c < 1114112) : PyData.canLayAll0 (l.map fun c => PyData.str ⟨#[c]⟩) = true := by
  induction l with
  | nil => rfl
  | cons c l ih =>
    have hc := h c List.mem_cons_self
    rw [List.map_cons]
    show (PyData.canLay0 (.str ⟨#[c]⟩) && _) = true
    rw [ih fun c hm => h c (List.mem_cons_of_mem _ hm)]
    simp [PyData.canLay0, PyData.strOk, hc]
theorem d_L_is_name {g : Gc} (T : Txt g) : Df g 2 "_law_is_name" ["_law_thing"] (sp1 okT fun x => .bool (isName x)) := by
  refine df_of (k := 1) (i := i_L_is_name) T.p_L_is_name T.sy sc_L_is_name ok_L_is_name (fun _ _ _ _ _ _ us hl => match us, hl with | [_], _ => rfl) ?_ (fun Y ws M Q E F hE h => ?_)
  · exact sp1_len
  · obtain ⟨x, rfl, hx, h⟩ := h
    refine ⟨_, (ss_cons (s_if (QW.pt (w_or (t_not (t_val (q_isi F 0 1 isk_str T.n_isinstance T.n_str (by decide +kernel) (q_var F 0)))) (w_or (t_not (t_chn o_le o_le q_int (q_callB F 3 c_len T.n_len (by decide +kernel) (a_cons (q_var F 0) a_nil)) q_int)) (w_or1 (t_cmp (o_in F) (q_var F 0) (q_call0 F 2 (d_L_words T))))))) (ss_one (s_ret q_bool)) ss_nil) (ss_one (s_ret (q_cmp (o_eq F) (q_lc (own := [("_law_sign", 1)]) F ⟨_, ["_law_thing", "_law_sign"], [1], [1], [], []⟩ (.one 1) ⟨rfl, rfl, ⟨rfl, by decide +kernel, by decide +kernel, by decide +kernel, by decide +kernel⟩, by decide +kernel, by decide +kernel⟩ (by decide) (i_str (q_var F 0)) (fun _ F hw => ⟨(pgN F 1), (ts_one (t_not (t_chn o_leS o_leS q_str (q_var F 1) q_str))), (q_var F 1)⟩)) (q_lst a_nil))))), ?_⟩
    cases x with
    | str z =>
      have hz : small z.length := small_of (Nat.le_trans hx.2 (by decide))
      have no : isName (.str z) = false → Q (.d (.bool false)) M := fun e => qcast h e
      by_cases h1 : (1 : Int) ≤ (z.length : Int)
      case neg =>
        refine ⟨hz, ?_⟩
        refine ifD (fun c => absurd c h1) (fun _ => ?_)
        exact no (by simp [isName, isNameS]; omega)
      refine ⟨hz, ?_⟩
      refine ifD (fun _ => ?_) (fun c => absurd h1 c)
      dsimp only [tK, rInt0]
      by_cases h2 : (z.length : Int) ≤ 8
      case neg =>
        refine bqc false (decide_eq_false h2) ?_
        exact no (by simp [isName, isNameS]; omega)
      refine bqc true (decide_eq_true h2) ?_
      refine ⟨rfl, in_words hx.1, ?_⟩
      cases hw : inD (.str z) wordsD with
      | true =>
        refine bqc true rfl ?_
        exact no (by simp [isName, isNameS, hw])
      | false =>
        refine bqc false rfl ?_
        refine lcP (T := .one 1) (fun w => !lowW w) unW ?_ (fun _ _ _ => trivial) ?_ ?_
        · simp [Dl.signs]
          exact Nat.le_trans hx.2 (by decide)
        · intro w hw M2 _
          obtain ⟨c, rfl⟩ : ∃ c, w = .d (.str ⟨#[c]⟩) := by
            unfold Dl.signs at hw
            obtain ⟨c, _, e⟩ := List.mem_map.mp hw
            exact ⟨c, e.symm⟩
          refine ⟨fun R r => ?_, fun _ R r => r⟩
          have e := low_le c
          rw [← sa, ← sz] at e
          refine ifB (b := !decide (([c] : List Nat) < ("a" : Str).cps.toList)) (fun hb => ?_) (fun hb => ?_)
          · rw [hb] at e
            exact cast (congrArg (fun b => R (!b) M2) (by rw [← e]; rfl)) (show R (!isLow c) M2 from r)
          · rw [hb] at e
            exact cast (congrArg (fun b => R (!b) M2) (by rw [← e]; rfl)) (show R (!isLow c) M2 from r)
        · have em : ∀ l : List Nat, ((l.map fun c => W.d (.str ⟨#[c]⟩)).filter fun w => !lowW w).map unW = (l.filter fun c => !isLow c).map fun c => PyData.str ⟨#[c]⟩ := by
            intro l
            induction l with
            | nil => rfl
            | cons c l ih =>
              rw [List.map_cons, List.filter_cons, List.filter_cons, lowW_one]
              cases hc : !isLow c with
              | true => rw [if_pos rfl, if_pos rfl, List.map_cons, List.map_cons, ih]; rfl
              | false => rw [if_neg (by decide), if_neg (by decide), ih]
          unfold Dl.signs
          rw [em]
          refine ⟨sm0, ?_, ?_⟩
          · have hc : ∀ c ∈ z.cps.toList, c < 1114112 := by
              have q : ∀ (i : Nat) (h : i < z.cps.size), z.cps[i] < 1114112 := by simpa [okL, PyData.strOk] using hx.1
              intro c hc
              obtain ⟨i, hi, rfl⟩ := Array.mem_iff_getElem.mp (Array.mem_toList_iff.mp hc)
              exact q i hi
            have l1 := one_lay (l := z.cps.toList.filter fun c => !isLow c) fun c h => hc c (List.mem_filter.mp h).1
            unfold eqOk
            rw [show PyData.canLay0 (.list ((z.cps.toList.filter fun c => !isLow c).map fun c => PyData.str ⟨#[c]⟩)) = true from l1]
            simp [PyData.canLay0, PyData.canLayAll0, PyData.depth, PyData.depthAll]
          · refine qcast h ?_
            have h1' : 1 ≤ z.length := by omega
            have h2' : z.length ≤ 8 := by omega
            cases hl : z.cps.toList.filter fun c => !isLow c with
            | nil =>
              have : z.cps.toList.all isLow = true := by
                rw [List.all_eq_true]
                intro c hc
                have := List.filter_eq_nil_iff.mp hl c hc
                simpa using this
              simp [isName, isNameS, hw, h1', h2', PyData.eqv, PyData.eqvAll, this]
            | cons c l =>
              have : z.cps.toList.all isLow = false := by
                rw [List.all_eq_false]
                have m : c ∈ z.cps.toList.filter fun c => !isLow c := by rw [hl]; exact List.mem_cons_self
                exact ⟨c, (List.mem_filter.mp m).1, by simpa using (List.mem_filter.mp m).2⟩
              simp [isName, isNameS, hw, h1', h2', PyData.eqv, PyData.eqvAll, this]
    | _ => exact h
theorem weight_mem : ∀ {ds : List PyData} {d : PyData}, d ∈ ds → d.weight ≤ PyData.weightAll ds
  | x :: xs, d, m => by
    simp only [PyData.weightAll]
    rcases List.mem_cons.mp m with e | m
    · rw [e]; omega
    · have := weight_mem m; omega
theorem length_weight : ∀ (ds : List PyData), ds.length ≤ PyData.weightAll ds
  | [] => Nat.le_refl _
  | x :: xs => by
    have := length_weight xs
    simp only [PyData.weightAll, List.length_cons]
    omega
theorem okT_mem {ds : List PyData} {d : PyData} (h : okT (.tuple ds)) (m : d ∈ ds) : okT d := by
  refine ⟨okLA_iff.mp h.1 d m, Nat.le_trans (weight_mem m) ?_⟩
  have := h.2
  simpa [PyData.weight] using this
theorem okT_len {ds : List PyData} (h : okT (.tuple ds)) : ds.length ≤ 16000000 := by
  have := h.2
  simp only [PyData.weight] at this
  exact Nat.le_trans (length_weight ds) this
def ksP : List Str := ["is", "has", "from", "to"]
def ihD : List PyData := [.str "is", .str "has"]
def isPiece (t : Str) : List PyData → Bool
  | [n, y] => ksP.contains t && isName n && (if inD (.str t) ihD = true then isName y else isWithin y 0 1000000)
  | _ => false
theorem piece2 (t : Str) (n y : PyData) : isPiece t [n, y] = (ksP.contains t && isName n && (if inD (.str t) ihD = true then isName y else isWithin y 0 1000000)) := rfl
/-- a text is looked for among written ones -/
theorem in_lit {t : Str} {l : List PyData} (h : okT (.str t)) (h1 : PyData.canLayAll0 l = true) (h2 : PyData.depthAll l ≤ 64) : inOk (.str t) l = true := by
  unfold inOk
  rw [h1, show (PyData.str t).canLay0 = true from h.1]
  simp
  omega
def spPiece : SpD := fun ws M Q _ => ∃ t r, ws = [.d (.tuple (.str t :: r))] ∧ okT (.tuple (.str t :: r)) ∧ Q (.d (.bool (isPiece t r))) M
theorem spPiece_len : ∀ ws M Q E, spPiece ws M Q E → ws.length = 1 := by rintro _ _ _ _ ⟨t, r, rfl, _⟩; rfl
theorem d_is_piece {g : Gc} (T : Txt g) : Df g 4 "is_piece" ["thing"] spPiece := by
  refine df_of (k := 3) (i := i_is_piece) T.p_is_piece T.sy sc_is_piece ok_is_piece (fun _ _ _ _ _ _ us hl => match us, hl with | [_], _ => rfl) ?_ (fun Y ws M Q E F hE h => ?_)
  · exact spPiece_len
  · obtain ⟨t, r, rfl, hx, h⟩ := h
    refine ⟨_, (ss_cons (s_if (QW.pt (w_or (t_cmp (o_ne F) (q_callB F 3 c_len T.n_len (by decide +kernel) (a_cons (q_var F 0) a_nil)) q_int) (w_or (t_cmp (o_notInK F T.c_PIECES.choose_spec) (q_ix (q_var F 0) q_int) (q_ref F 1 T.c_PIECES.choose_spec)) (w_or1 (t_not (t_val (q_call F 2 (d_is_name T) (a_cons (q_ix (q_var F 0) q_int) a_nil)))))))) (ss_one (s_ret q_bool)) ss_nil) (ss_cons (s_if (t_cmp (o_in F) (q_ix (q_var F 0) q_int) (q_tup (a_cons q_str (a_cons q_str a_nil)))) (ss_one (s_ret (q_call F 2 (d_is_name T) (a_cons (q_ix (q_var F 0) q_int) a_nil)))) ss_nil) (ss_one (s_ret (q_call F 0 (d_is_number T) (a_cons (q_ix (q_var F 0) q_int) a_nil)))))), ?_⟩
    have no : isPiece t r = false → Q (.d (.bool false)) M := fun e => qcast h e
    match r, hx, h, no with
    | [], _, _, no => exact ⟨rfl, bqc true (by simp [PyData.eqv]) (no rfl)⟩
    | [a], _, _, no => exact ⟨rfl, bqc true (by simp [PyData.eqv]) (no rfl)⟩
    | a :: b :: c :: l, _, _, no => exact ⟨rfl, bqc true (by simp [PyData.eqv]; omega) (no rfl)⟩
    | [n, y], hx, h, no =>
      have ht : okT (.str t) := okT_mem hx (by simp)
      refine ⟨rfl, bqc false (by simp [PyData.eqv]) ⟨_, at0, rfl, ?_⟩⟩
      cases hk : ksP.contains t with
      | false => exact bqc true (by show (if true = true then !ksP.contains t else _) = true; rw [hk]; rfl) (no (by rw [piece2, hk]; rfl))
      | true =>
        refine bqc false (by show (if true = true then !ksP.contains t else _) = false; rw [hk]; rfl) ⟨_, at1, n, rfl, okT_mem hx (by simp), ?_⟩
        cases hn : isName n with
        | false => exact bqc false (by first | exact hn | rfl) (no (by rw [piece2, hk, hn]; rfl))
        | true =>
          refine bqc true (by first | exact hn | rfl) ⟨_, at0, sm2, in_lit ht (by decide +kernel) (by decide +kernel), ?_⟩
          cases hi : inD (.str t) ihD with
          | true => exact bqc true (by first | exact hi | rfl) ⟨_, at2, y, rfl, okT_mem hx (by simp), qcast h (by rw [piece2, hk, hn, hi]; rfl)⟩
          | false => exact bqc false (by first | exact hi | rfl) ⟨_, at2, y, rfl, trivial, qcast h (by rw [piece2, hk, hn, hi]; rfl)⟩
end Ms
set_option Elab.async false
set_option linter.all false
set_option maxRecDepth 100000
namespace Ms
open PySem PySem.Spec PyProof.Rows L2 Dl
def joinD : List PyData := [.str "and", .str "or"]
def anyD : List PyData := [.str "any", .str "every"]
/-- how many all of them have, two to six -/
def sumP (f : PyData → Option Nat) (ps : List PyData) : Option Nat :=
  if (decide (2 ≤ ps.length) && decide (ps.length ≤ 6)) = true then (if (ps.all fun p => (f p).isSome) = true then some (ps.map fun p => (f p).getD 0).sum else none) else none
def joinP (f : PyData → Option Nat) : PyData → Option Nat
  | .tuple ps => sumP f ps
  | _ => none
def pcsRest (f : Bool → PyData → Option Nat) (w : Bool) (t : Str) : List PyData → Option Nat
  | [y] => if PyData.eqv (.str t) (.str "not") = true then f w y else if inD (.str t) joinD = true then joinP (f w) y else none
  | [n, y] => if (inD (.str t) anyD && isName n && !w) = true then f true y else none
  | _ => none
def pcsStep (f : Bool → PyData → Option Nat) (w : Bool) (t : Str) (r : List PyData) : Option Nat := if isPiece t r = true then some 1 else pcsRest f w t r
/-- how many pieces a condition has -/
def pcs : Nat → Bool → PyData → Option Nat
  | 0, _, _ => none
  | d + 1, w, x => match x with
    | .tuple (.str t :: r) => pcsStep (pcs d) w t r
    | _ => none
def optD : Option Nat → PyData
  | none => .none
  | some n => .int n
def partsP (d : Nat) (w : Bool) : PyData → Option Nat := joinP (pcs d w)
def spIn (n : Nat) : SpD := fun ws M Q _ => ∃ (x : PyData) (d : Nat) (w : Bool), ws = [.d x, .d (.int d), .d (.bool w)] ∧ d ≤ n ∧ okT x ∧ Q (.d (optD (pcs d w x))) M
def spParts (n : Nat) : SpD := fun ws M Q _ => ∃ (x : PyData) (d : Nat) (w : Bool), ws = [.d x, .d (.int d), .d (.bool w)] ∧ d ≤ n ∧ okT x ∧ Q (.d (optD (partsP d w x))) M
def spIn' : Nat → SpD | 0 => spNo | n + 1 => spIn n
def spParts' : Nat → SpD | 0 => spNo | n + 1 => spParts n
theorem spIn_len {n} : ∀ ws M Q E, spIn n ws M Q E → ws.length = 3 := by rintro _ _ _ _ ⟨x, d, w, rfl, _⟩; rfl
theorem spParts_len {n} : ∀ ws M Q E, spParts n ws M Q E → ws.length = 3 := by rintro _ _ _ _ ⟨x, d, w, rfl, _⟩; rfl
theorem ocast {Q : W → MH → Prop} {M : MH} {a b : Option Nat} (h : Q (.d (optD a)) M) (e : a = b) : Q (.d (optD b)) M := by rw [← e]; exact h
theorem opt_lay : ∀ l : List (Option Nat), PyData.canLayAll0 (l.map optD) = true ∧ PyData.depthAll (l.map optD) = 0
  | [] => ⟨rfl, rfl⟩
  | o :: l => by
    obtain ⟨h1, h2⟩ := opt_lay l
    cases o <;> exact ⟨by simp [PyData.canLayAll0, PyData.canLay0, optD, h1], by simp [PyData.depthAll, PyData.depth, optD, h2]⟩
theorem opt_in : ∀ l : List (Option Nat), inD .none (l.map optD) = !l.all (·.isSome)
  | [] => rfl
  | o :: l => by
    have := opt_in l
    unfold inD at this ⊢
    rw [List.map_cons, List.any_cons, this]
    cases o <;> simp [optD, PyData.eqv]
theorem opt_ints : ∀ l : List (Option Nat), l.all (·.isSome) = true → intsD (l.map optD) = some (l.map fun o => ((o.getD 0 : Nat) : Int))
  | [], _ => rfl
  | none :: l, h => by simp at h
  | some n :: l, h => by
    have := opt_ints l (by simpa using h)
    show (intsD (l.map optD)).map _ = _
    rw [this]
    rfl
theorem opt_sum : ∀ l : List (Option Nat), (l.map fun o => ((o.getD 0 : Nat) : Int)).sum = (((l.map fun o => o.getD 0).sum : Nat) : Int)
  | [] => rfl
  | o :: l => by
    rw [List.map_cons, List.map_cons, List.sum_cons, List.sum_cons, opt_sum l]
    omega
theorem parts_of {g : Gc} (T : Txt g) (n : Nat) (DI : Df g (5 + 2 * n) "pieces_in" ["thing", "deep", "within"] (spIn n)) : Df g (5 + 2 * n + 1) "pieces_of_parts" ["parts", "deep", "within"] (spParts n) := by
  refine df_of (k := 5 + 2 * n) (i := i_pieces_of_parts) T.p_pieces_of_parts T.sy sc_pieces_of_parts ok_pieces_of_parts (fun _ _ _ _ _ _ us hl => match us, hl with | [_, _, _], _ => rfl) spParts_len (fun Y ws M Q E F hE h => ?_)
  obtain ⟨x, d, w, rfl, hd, hx, h⟩ := h
  refine ⟨_, (ss_cons (s_if (QW.pt (w_or (t_not (t_val (q_isi F 1 2 isk_tuple T.n_isinstance T.n_tuple (by decide +kernel) (q_var F 0)))) (w_or1 (t_not (t_chn o_le o_le q_int (q_callB F 4 c_len T.n_len (by decide +kernel) (a_cons (q_var F 0) a_nil)) (q_cst F 3 T.c_MOST_PARTS)))))) (ss_one (s_ret q_none)) ss_nil) (ss_cons (s_setlc (own := [("part", 4)]) F 3 ⟨_, ["parts", "deep", "within", "found", "part"], [4, 1, 2], [4], [], ["pieces_in"]⟩ (.one 4) ⟨rfl, rfl, ⟨rfl, by decide +kernel, by decide +kernel, by decide +kernel, by decide +kernel⟩, by decide +kernel, by decide +kernel⟩ (by decide) (i_tup (q_var F 0)) (fun _ F hw => ⟨(pgN F 4), ts_nil, (q_callW hw F 0 DI (a_cons (q_var F 4) (a_cons (q_var F 1) (a_cons (q_var F 2) a_nil))))⟩)) (ss_one (s_ret (q_ite (t_cmp (o_in F) q_none (q_var F 3)) q_none (q_callB F 0 (c_sum F) T.n_sum (by decide +kernel) (a_cons (q_var F 3) a_nil))))))), ?_⟩
  cases x with
  | tuple ps =>
    have no : sumP (pcs d w) ps = none → Q (.d .none) M := fun e => ocast h e
    by_cases h1 : (2 : Int) ≤ (ps.length : Int)
    case neg =>
      refine ifD (fun c => absurd c h1) (fun _ => ?_)
      exact no (by unfold sumP; rw [if_neg]; simp; omega)
    refine ifD (fun _ => ?_) (fun c => absurd h1 c)
    dsimp only [tK, rInt0, k_MOST_PARTS]
    by_cases h2 : (ps.length : Int) ≤ 6
    case neg =>
      refine bqc false (decide_eq_false h2) ?_
      exact no (by unfold sumP; rw [if_neg]; simp; omega)
    refine bqc true (decide_eq_true h2) ?_
    refine lcA (T := .one 4) (fun v => match v with | .d p => optD (pcs d w p) | _ => .none) ?_ (fun _ _ _ => trivial) ?_ ?_
    · simpa using okT_len hx
    · intro v hv M2 _ R r
      obtain ⟨p, hp, rfl⟩ := List.mem_map.mp hv
      exact ⟨p, d, w, rfl, hd, okT_mem hx hp, r⟩
    · have e : (ps.map W.d).map (fun v => match v with | .d p => optD (pcs d w p) | _ => .none) = (ps.map (pcs d w)).map optD := by
        rw [List.map_map, List.map_map]
        rfl
      rw [e]
      obtain ⟨b1, b2⟩ := opt_lay (ps.map (pcs d w))
      have two : (decide (2 ≤ ps.length) && decide (ps.length ≤ 6)) = true := by simp; omega
      have al : (ps.map (pcs d w)).all (·.isSome) = ps.all fun p => (pcs d w p).isSome := by rw [List.all_map]; rfl
      refine ⟨by unfold inOk; rw [b1, b2]; simp [PyData.canLay0, PyData.depth], ?_⟩
      have ei := opt_in (ps.map (pcs d w))
      cases ha : (ps.map (pcs d w)).all (·.isSome) with
      | false =>
        rw [ha] at ei
        refine bqc true (by show (if false = true then _ else inD .none _) = true; rw [ei]; rfl) ?_
        exact no (by unfold sumP; rw [if_pos two, ← al, ha]; rfl)
      | true =>
        rw [ha] at ei
        refine bqc false (by show (if false = true then _ else inD .none _) = false; rw [ei]; rfl) ?_
        show (match intsD ((ps.map (pcs d w)).map optD) with | some ns => Q (.d (.int ns.sum)) M | none => False)
        rw [opt_ints _ ha]
        show Q (.d (.int _)) M
        rw [opt_sum]
        have z : sumP (pcs d w) ps = some (((ps.map (pcs d w)).map fun o => o.getD 0).sum) := by
          unfold sumP
          rw [if_pos two, ← al, ha, List.map_map]
          rfl
        exact ocast h z
  | _ => exact h
theorem in_of {g : Gc} (T : Txt g) (n m1 m2 : Nat) (l1 : m1 ≤ 4 + 2 * n) (l2 : m2 ≤ 4 + 2 * n) (DI : Df g m1 "pieces_in" ["thing", "deep", "within"] (spIn' n)) (DP : Df g m2 "pieces_of_parts" ["parts", "deep", "within"] (spParts' n)) : Df g (4 + 2 * n + 1) "pieces_in" ["thing", "deep", "within"] (spIn n) := by
  refine df_of (k := 4 + 2 * n) (i := i_pieces_in) T.p_pieces_in T.sy sc_pieces_in ok_pieces_in (fun _ _ _ _ _ _ us hl => match us, hl with | [_, _, _], _ => rfl) spIn_len (fun Y ws M Q E F hE h => ?_)
  obtain ⟨x, d, w, rfl, hd, hx, h⟩ := h
  refine ⟨_, (ss_cons (s_if (QW.pt (w_or (t_cmp o_lt (q_var F 1) q_int) (w_or (t_not (t_val (q_isi F 4 5 isk_tuple T.n_isinstance T.n_tuple (by decide +kernel) (q_var F 0)))) (w_or (t_cmp (o_eq F) (q_var F 0) (q_tup a_nil)) (w_or1 (t_not (t_val (q_isi F 4 6 isk_str T.n_isinstance T.n_str (by decide +kernel) (q_ix (q_var F 0) q_int))))))))) (ss_one (s_ret q_none)) ss_nil) (ss_cons (s_if (t_val (q_call F 0 (d_is_piece T) (a_cons (q_var F 0) a_nil))) (ss_one (s_ret q_int)) ss_nil) (ss_cons (s_if (QW.pt (w_and (t_cmp (o_eq F) (q_ix (q_var F 0) q_int) q_str) (w_and1 (t_cmp (o_eq F) (q_callB F 7 c_len T.n_len (by decide +kernel) (a_cons (q_var F 0) a_nil)) q_int)))) (ss_one (s_ret (q_call F 1 DI (a_cons (q_ix (q_var F 0) q_int) (a_cons (q_bin o_sub (q_var F 1) q_int) (a_cons (q_var F 2) a_nil)))))) ss_nil) (ss_cons (s_if (QW.pt (w_and (t_cmp (o_in F) (q_ix (q_var F 0) q_int) (q_tup (a_cons q_str (a_cons q_str a_nil)))) (w_and1 (t_cmp (o_eq F) (q_callB F 7 c_len T.n_len (by decide +kernel) (a_cons (q_var F 0) a_nil)) q_int)))) (ss_one (s_ret (q_call F 2 DP (a_cons (q_ix (q_var F 0) q_int) (a_cons (q_bin o_sub (q_var F 1) q_int) (a_cons (q_var F 2) a_nil)))))) ss_nil) (ss_cons (s_if (QW.pt (w_and (t_cmp (o_in F) (q_ix (q_var F 0) q_int) (q_tup (a_cons q_str (a_cons q_str a_nil)))) (w_and (t_cmp (o_eq F) (q_callB F 7 c_len T.n_len (by decide +kernel) (a_cons (q_var F 0) a_nil)) q_int) (w_and (t_val (q_call F 3 (d_is_name T) (a_cons (q_ix (q_var F 0) q_int) a_nil))) (w_and1 (t_not (t_val (q_var F 2)))))))) (ss_one (s_ret (q_call F 1 DI (a_cons (q_ix (q_var F 0) q_int) (a_cons (q_bin o_sub (q_var F 1) q_int) (a_cons q_bool a_nil)))))) ss_nil) (ss_one (s_ret q_none))))))), ?_⟩
  cases d with
  | zero =>
    exact h
  | succ d =>
    have no : pcs (d + 1) w x = none → Q (.d .none) M := fun e => ocast h e
    obtain ⟨n, rfl⟩ : ∃ n', n = n' + 1 := ⟨n - 1, by omega⟩
    generalize hde : ((d + 1 : Nat) : Int) = de
    refine ifD (fun c => ?_) (fun _ => ?_)
    · exact absurd (show de < 1 from c) (by omega)
    cases x with
    | tuple xs =>
      refine ⟨sm0, by simp [eqOk, isTup], ?_⟩
      match xs, hx, h, no with
      | [], _, _, no => exact bqc true (eqv_tup_nil (xs := [])) (no rfl)
      | t :: r, hx, h, no =>
        refine bqc false (eqv_tup_nil (xs := t :: r)) ⟨_, at0, ?_⟩
        cases t with
        | str t =>
          refine ⟨t, r, rfl, hx, ?_⟩
          cases hp : isPiece t r with
          | true => exact bqc true (by first | exact hp | rfl) (show Q (.d (.int 1)) M from ocast h (show pcsStep (pcs d) w t r = some 1 by unfold pcsStep; rw [if_pos hp]))
          | false =>
            have ht : okT (.str t) := okT_mem hx List.mem_cons_self
            have ps : pcs (d + 1) w (.tuple (.str t :: r)) = pcsRest (pcs d) w t r := by
              show pcsStep (pcs d) w t r = _
              unfold pcsStep
              rw [if_neg (by rw [hp]; exact Bool.false_ne_true)]
            rw [ps] at no
            have h : Q (.d (optD (pcsRest (pcs d) w t r))) M := ocast h ps
            clear ps
            refine bqc false (by first | exact hp | rfl) ?_
            have j1 : inOk (.str t) joinD = true := in_lit ht (by decide +kernel) (by decide +kernel)
            have j2 : inOk (.str t) anyD = true := in_lit ht (by decide +kernel) (by decide +kernel)
            rw [if_neg Bool.false_ne_true]
            dsimp only [tNxt]
            refine sq_cut (fun σ M' => σ = [some (.d (.tuple (.str t :: r))), some (.d (.int de)), some (.d (.bool w))] ∧ M = M' ∧ ∀ y, r = [y] → PyData.eqv (.str t) (.str "not") = false) (fun N hN => ?_) ?_
            · refine ⟨_, at0, rfl, ?_⟩
              cases hn : PyData.eqv (.str t) (.str "not") with
              | false => exact bqc false (by first | exact hn | rfl) (hN _ _ ⟨rfl, rfl, fun _ _ => hn⟩)
              | true =>
                refine bqc true (by first | exact hn | rfl) ?_
                rcases r with _ | ⟨y, _ | ⟨z, l⟩⟩
                · exact ⟨rfl, bqc false (by simp [PyData.eqv]) (hN _ _ ⟨rfl, rfl, fun y e => by cases e⟩)⟩
                · refine ⟨rfl, bqc true (by simp [PyData.eqv]) ⟨_, at1, y, d, w, ?_, by omega, okT_mem hx (by simp), ocast h ?_⟩⟩
                  · show [W.d y, .d (.int (de - 1)), .d (.bool w)] = _
                    rw [show de - 1 = (d : Int) by omega]
                  · show (if PyData.eqv (.str t) (.str "not") = true then pcs d w y else _) = _
                    rw [if_pos hn]
                · exact ⟨rfl, bqc false (by simp [PyData.eqv]; omega) (hN _ _ ⟨rfl, rfl, fun y e => by cases e⟩)⟩
            · rintro _ _ ⟨rfl, rfl, q1⟩
              refine sq_cut (fun σ M' => σ = [some (.d (.tuple (.str t :: r))), some (.d (.int de)), some (.d (.bool w))] ∧ M = M' ∧ ∀ y, r = [y] → pcsRest (pcs d) w t [y] = none) (fun N hN => ?_) ?_
              · refine ⟨_, at0, sm2, j1, ?_⟩
                cases hj : inD (.str t) joinD with
                | false =>
                  refine bqc false (by first | exact hj | rfl) (hN _ _ ⟨rfl, rfl, fun y e => ?_⟩)
                  show (if PyData.eqv (.str t) (.str "not") = true then _ else if inD (.str t) joinD = true then _ else none) = none
                  rw [q1 y e, hj]
                  first | done | rfl
                | true =>
                  refine bqc true (by first | exact hj | rfl) ?_
                  rcases r with _ | ⟨y, _ | ⟨z, l⟩⟩
                  · exact ⟨rfl, bqc false (by simp [PyData.eqv]) (hN _ _ ⟨rfl, rfl, fun y e => by cases e⟩)⟩
                  · refine ⟨rfl, bqc true (by simp [PyData.eqv]) ⟨_, at1, y, d, w, ?_, by omega, okT_mem hx (by simp), ocast h ?_⟩⟩
                    · show [W.d y, .d (.int (de - 1)), .d (.bool w)] = _
                      rw [show de - 1 = (d : Int) by omega]
                    · show (if PyData.eqv (.str t) (.str "not") = true then pcs d w y else if inD (.str t) joinD = true then joinP (pcs d w) y else none) = _
                      rw [q1 y rfl, hj]
                      first | done | rfl
                  · exact ⟨rfl, bqc false (by simp [PyData.eqv]; omega) (hN _ _ ⟨rfl, rfl, fun y e => by cases e⟩)⟩
              · rintro _ _ ⟨rfl, rfl, q2⟩
                refine ⟨_, at0, sm2, j2, ?_⟩
                cases hy : inD (.str t) anyD with
                | false =>
                  refine bqc false (by first | exact hy | rfl) (no ?_)
                  rcases r with _ | ⟨y, _ | ⟨z, _ | ⟨u, l⟩⟩⟩
                  · rfl
                  · exact q2 y rfl
                  · show (if (inD (.str t) anyD && isName y && !w) = true then _ else none) = none
                    rw [hy]
                    rfl
                  · rfl
                | true =>
                  refine bqc true (by first | exact hy | rfl) ?_
                  rcases r with _ | ⟨y, _ | ⟨z, _ | ⟨u, l⟩⟩⟩
                  · exact ⟨rfl, bqc false (by simp [PyData.eqv]) (no rfl)⟩
                  · exact ⟨rfl, bqc false (by simp [PyData.eqv]) (no (q2 y rfl))⟩
                  · refine ⟨rfl, bqc true (by simp [PyData.eqv]) ⟨_, at1, y, rfl, okT_mem hx (by simp), ?_⟩⟩
                    have rs : pcsRest (pcs d) w t [y, z] = if (inD (.str t) anyD && isName y && !w) = true then pcs d true z else none := rfl
                    cases hm : isName y with
                    | false => exact bqc false (by first | exact hm | rfl) (no (by rw [rs, hy, hm]; rfl))
                    | true =>
                      refine bqc true (by first | exact hm | rfl) ?_
                      cases w with
                      | true => exact no (by rw [rs, hy, hm]; rfl)
                      | false =>
                        refine ⟨_, at2, z, d, true, ?_, by omega, okT_mem hx (by simp), ocast h ?_⟩
                        · show [W.d z, .d (.int (de - 1)), .d (.bool true)] = _
                          rw [show de - 1 = (d : Int) by omega]
                        · rw [rs, hy, hm]
                          rfl
                  · exact ⟨rfl, bqc false (by simp [PyData.eqv]; omega) (no rfl)⟩
        | _ => exact no rfl
    | _ => exact no rfl
theorem no_in {g : Gc} (T : Txt g) : Df g 1 "pieces_in" ["thing", "deep", "within"] (spIn' 0) := df_of (k := 0) (i := i_pieces_in) T.p_pieces_in T.sy sc_pieces_in ok_pieces_in (fun _ _ _ _ _ _ us hl => match us, hl with | [_, _, _], _ => rfl) (fun _ _ _ _ (h : False) => h.elim) (fun _ _ _ _ _ _ _ (h : False) => h.elim)
theorem no_parts {g : Gc} (T : Txt g) : Df g 1 "pieces_of_parts" ["parts", "deep", "within"] (spParts' 0) := df_of (k := 0) (i := i_pieces_of_parts) T.p_pieces_of_parts T.sy sc_pieces_of_parts ok_pieces_of_parts (fun _ _ _ _ _ _ us hl => match us, hl with | [_, _, _], _ => rfl) (fun _ _ _ _ (h : False) => h.elim) (fun _ _ _ _ _ _ _ (h : False) => h.elim)
theorem d_both {g : Gc} (T : Txt g) : ∀ n : Nat, Df g (5 + 2 * n) "pieces_in" ["thing", "deep", "within"] (spIn n) ∧ Df g (5 + 2 * n + 1) "pieces_of_parts" ["parts", "deep", "within"] (spParts n)
  | 0 => by
    have a := in_of T 0 1 1 (by omega) (by omega) (no_in T) (no_parts T)
    exact ⟨a, parts_of T 0 a⟩
  | n + 1 => by
    obtain ⟨i1, i2⟩ := d_both T n
    have a := in_of T (n + 1) (5 + 2 * n) (5 + 2 * n + 1) (by omega) (by omega) i1 i2
    have a' : Df g (5 + 2 * (n + 1)) "pieces_in" ["thing", "deep", "within"] (spIn (n + 1)) := by
      rw [show 5 + 2 * (n + 1) = 4 + 2 * (n + 1) + 1 by omega]
      exact a
    exact ⟨a', parts_of T (n + 1) a'⟩
def condO : Option Nat → Bool
  | some n => decide ((n : Int) ≤ 30)
  | none => false
/-- a condition: thirty pieces at most, six deep at most -/
def isCond (x : PyData) : Bool := condO (pcs 6 false x)
theorem d_is_condition {g : Gc} (T : Txt g) : Df g 18 "is_condition" ["thing"] (sp1 okT fun x => .bool (isCond x)) := by
  refine df_of (k := 17) (i := i_is_condition) T.p_is_condition T.sy sc_is_condition ok_is_condition (fun _ _ _ _ _ _ us hl => match us, hl with | [_], _ => rfl) ?_ (fun Y ws M Q E F hE h => ?_)
  · exact sp1_len
  · obtain ⟨x, rfl, hx, h⟩ := h
    refine ⟨_, (ss_cons (s_set (q_call F 0 (d_both T 6).1 (a_cons (q_var F 0) (a_cons (q_cst F 1 T.c_MOST_DEEP) (a_cons q_bool a_nil)))) (g_name F 1)) (ss_one (s_ret (q_and (q_cmp o_isNot (q_var F 1) q_none) (q_one (q_cmp o_le (q_var F 1) (q_cst F 2 T.c_MOST_PIECES))))))), ?_⟩
    have h : Q (.d (.bool (condO (pcs 6 false x)))) M := h
    refine ⟨x, 6, false, rfl, Nat.le_refl _, hx, ?_⟩
    cases hp : pcs 6 false x with
    | none =>
      rw [hp] at h
      exact h
    | some n =>
      rw [hp] at h
      exact h
end Ms
set_option Elab.async false
set_option linter.all false
set_option maxRecDepth 100000
namespace Ms
open PySem PySem.Spec PyProof.Rows L2 Dl
theorem inD_strs (z : Str) : ∀ zs : List Str, inD (.str z) (zs.map PyData.str) = decide (z ∈ zs)
  | [] => by simp [inD]
  | x :: zs => by
    have := inD_strs z zs
    unfold inD at this ⊢
    rw [List.map_cons, List.any_cons, this]
    by_cases e : x = z
    · subst e; simp [PyData.eqv]
    · have e' : z ≠ x := fun q => e q.symm
      simp [PyData.eqv, e, e']
def lawN : Option Nat → Nat
  | some n => min 99 n
  | none => 99
def ftD : List PyData := [.str "from", .str "to"]
def nao : List PyData := [.str "not", .str "and", .str "or"]
theorem t_in {t : Str} {zs : List Str} (h : inD (.str t) (zs.map PyData.str) = true) : t ∈ zs := by
  rw [inD_strs] at h
  exact of_decide_eq_true h
theorem ih_is {t : Str} (h : inD (.str t) ihD = true) : t = "is" ∨ t = "has" := by simpa using t_in (zs := ["is", "has"]) h
theorem ft_is {t : Str} (h : inD (.str t) ftD = true) : t = "from" ∨ t = "to" := by simpa using t_in (zs := ["from", "to"]) h
theorem ih_ks {t : Str} (h : inD (.str t) ihD = true) : ksP.contains t = true := by rcases ih_is h with rfl | rfl <;> decide +kernel
theorem ft_ks {t : Str} (h : inD (.str t) ftD = true) : ksP.contains t = true := by rcases ft_is h with rfl | rfl <;> decide +kernel
theorem ih_any {t : Str} (h : inD (.str t) ihD = true) : inD (.str t) anyD = false := by rcases ih_is h with rfl | rfl <;> decide +kernel
theorem ft_any {t : Str} (h : inD (.str t) ftD = true) : inD (.str t) anyD = false := by rcases ft_is h with rfl | rfl <;> decide +kernel
theorem no_ks {t : Str} (h : inD (.str t) ihD = false) (k : inD (.str t) ftD = false) : ksP.contains t = false := by
  cases e : ksP.contains t with
  | false => rfl
  | true =>
    have m : t ∈ ksP := by simpa using e
    simp only [ksP, List.mem_cons, List.not_mem_nil, or_false] at m
    rcases m with rfl | rfl | rfl | rfl
    · exact absurd h (by decide +kernel)
    · exact absurd h (by decide +kernel)
    · exact absurd k (by decide +kernel)
    · exact absurd k (by decide +kernel)
theorem nao_is {t : Str} (h : inD (.str t) nao = true) : t = "not" ∨ t = "and" ∨ t = "or" := by simpa using t_in (zs := ["not", "and", "or"]) h
theorem nao_join {t : Str} (h : inD (.str t) nao = true) (k : PyData.eqv (.str t) (.str "not") = false) : inD (.str t) joinD = true := by
  rcases nao_is h with rfl | rfl | rfl
  · exact absurd k (by decide +kernel)
  · decide +kernel
  · decide +kernel
theorem nao_no {t : Str} (h : inD (.str t) nao = false) : PyData.eqv (.str t) (.str "not") = false ∧ inD (.str t) joinD = false := by
  constructor
  · cases e : PyData.eqv (.str t) (.str "not") with
    | false => rfl
    | true =>
      have : t = "not" := by simpa [PyData.eqv] using e
      subst this
      exact absurd h (by decide +kernel)
  · cases e : inD (.str t) joinD with
    | false => rfl
    | true =>
      have := t_in (zs := ["and", "or"]) e
      simp only [List.mem_cons, List.not_mem_nil, or_false] at this
      rcases this with rfl | rfl <;> exact absurd h (by decide +kernel)
theorem neD_int {a b : Int} : neOk (.int a) (.int b) = true := by simp [neOk, PyData.canLay0, PyData.depth]
theorem sum_law (f : PyData → Option Nat) : ∀ zs : List PyData, zs ≠ [] → min 99 (zs.map fun p => lawN (f p)).sum = lawN (if (zs.all fun p => (f p).isSome) = true then some (zs.map fun p => (f p).getD 0).sum else none) ∧
    min 99 (zs.map fun p => ((lawN (f p) : Nat) : Int)).sum = ((min 99 (zs.map fun p => lawN (f p)).sum : Nat) : Int) := by
  intro zs _
  constructor
  · induction zs with
    | nil => rfl
    | cons z zs ih =>
      cases hz : f z with
      | none => simp [hz, lawN]
      | some n =>
        by_cases ha : (zs.all fun p => (f p).isSome) = true
        · rw [if_pos ha] at ih
          rw [if_pos (by rw [List.all_cons, hz, ha]; rfl)]
          simp only [List.map_cons, List.sum_cons, hz, Option.getD_some, lawN] at ih ⊢
          by_cases h0 : zs = []
          · subst h0; simp
          · have := ih h0
            omega
        · rw [if_neg ha] at ih
          rw [if_neg (by rw [List.all_cons, hz]; simpa using ha)]
          by_cases h0 : zs = []
          · subst h0; exact absurd rfl ha
          · have := ih h0
            simp only [List.map_cons, List.sum_cons, hz, lawN] at this ⊢
            omega
  · have : ∀ l : List PyData, (l.map fun p => ((lawN (f p) : Nat) : Int)).sum = (((l.map fun p => lawN (f p)).sum : Nat) : Int) := by
      intro l
      induction l with
      | nil => rfl
      | cons z l ih => rw [List.map_cons, List.map_cons, List.sum_cons, List.sum_cons, ih]; omega
    rw [this]
    omega
def spLP : Nat → SpD
  | 0 => spNo
  | n + 1 => fun ws M Q _ => ∃ (x : PyData) (d : Nat) (w : Bool), ws = [.d x, .d (.int d), .d (.bool w)] ∧ d ≤ n ∧ okT x ∧ Q (.d (.int (lawN (pcs d w x)))) M
theorem spLP_len {n} : ∀ ws M Q E, spLP n ws M Q E → ws.length = 3 := by
  cases n with
  | zero => intro _ _ _ _ h; exact h.elim
  | succ n => rintro _ _ _ _ ⟨x, d, w, rfl, _⟩; rfl
theorem ncast {Q : W → MH → Prop} {M : MH} {a b : Nat} (h : Q (.d (.int a)) M) (e : a = b) : Q (.d (.int b)) M := by rw [← e]; exact h
theorem d_L_pieces {g : Gc} (T : Txt g) : ∀ n : Nat, Df g (3 + n) "_law_pieces" ["_law_thing", "_law_deep", "_law_within"] (spLP n)
  | 0 => df_of (k := 2) (i := i_L_pieces) T.p_L_pieces T.sy sc_L_pieces ok_L_pieces (fun _ _ _ _ _ _ us hl => match us, hl with | [_, _, _], _ => rfl) (fun _ _ _ _ (h : False) => h.elim) (fun _ _ _ _ _ _ _ (h : False) => h.elim)
  | n + 1 => by
    refine df_of (k := 3 + n) (i := i_L_pieces) T.p_L_pieces T.sy sc_L_pieces ok_L_pieces (fun _ _ _ _ _ _ us hl => match us, hl with | [_, _, _], _ => rfl) ?_ (fun Y ws M Q E F hE h => ?_)
    · exact spLP_len
    · obtain ⟨x, d, w, rfl, hd, hx, h⟩ := h
      refine ⟨_, (ss_cons (s_if (QW.pt (w_or (t_cmp o_lt (q_var F 1) q_int) (w_or (t_not (t_val (q_isi F 4 5 isk_tuple T.n_isinstance T.n_tuple (by decide +kernel) (q_var F 0)))) (w_or (t_cmp o_lt (q_callB F 6 c_len T.n_len (by decide +kernel) (a_cons (q_var F 0) a_nil)) q_int) (w_or1 (t_not (t_val (q_isi F 4 7 isk_str T.n_isinstance T.n_str (by decide +kernel) (q_ix (q_var F 0) q_int))))))))) (ss_one (s_ret q_int)) ss_nil) (ss_cons (s_if (QW.pt (w_and (t_cmp (o_in F) (q_ix (q_var F 0) q_int) (q_tup (a_cons q_str (a_cons q_str a_nil)))) (w_and1 (t_cmp (o_eq F) (q_callB F 6 c_len T.n_len (by decide +kernel) (a_cons (q_var F 0) a_nil)) q_int)))) (ss_one (s_ret (q_ite (QW.pt (w_and (t_val (q_call F 1 (d_L_is_name T) (a_cons (q_ix (q_var F 0) q_int) a_nil))) (w_and1 (t_val (q_call F 1 (d_L_is_name T) (a_cons (q_ix (q_var F 0) q_int) a_nil)))))) q_int q_int))) ss_nil) (ss_cons (s_if (QW.pt (w_and (t_cmp (o_in F) (q_ix (q_var F 0) q_int) (q_tup (a_cons q_str (a_cons q_str a_nil)))) (w_and1 (t_cmp (o_eq F) (q_callB F 6 c_len T.n_len (by decide +kernel) (a_cons (q_var F 0) a_nil)) q_int)))) (ss_one (s_ret (q_ite (QW.pt (w_and (t_val (q_call F 1 (d_L_is_name T) (a_cons (q_ix (q_var F 0) q_int) a_nil))) (w_and1 (t_val (q_call F 8 (d_L_is_within T) (a_cons (q_ix (q_var F 0) q_int) (a_cons q_int (a_cons (q_bin o_pow q_int q_int) a_nil)))))))) q_int q_int))) ss_nil) (ss_cons (s_if (QW.pt (w_and (t_cmp (o_in F) (q_ix (q_var F 0) q_int) (q_tup (a_cons q_str (a_cons q_str a_nil)))) (w_and (t_cmp (o_eq F) (q_callB F 6 c_len T.n_len (by decide +kernel) (a_cons (q_var F 0) a_nil)) q_int) (w_and (t_val (q_call F 1 (d_L_is_name T) (a_cons (q_ix (q_var F 0) q_int) a_nil))) (w_and1 (t_not (t_val (q_var F 2)))))))) (ss_one (s_ret (q_call F 2 (d_L_pieces T n) (a_cons (q_ix (q_var F 0) q_int) (a_cons (q_bin o_sub (q_var F 1) q_int) (a_cons q_bool a_nil)))))) ss_nil) (ss_cons (s_if (QW.pt (w_or (t_cmp (o_ne F) (q_callB F 6 c_len T.n_len (by decide +kernel) (a_cons (q_var F 0) a_nil)) q_int) (w_or1 (t_cmp (o_notIn F) (q_ix (q_var F 0) q_int) (q_tup (a_cons q_str (a_cons q_str (a_cons q_str a_nil)))))))) (ss_one (s_ret q_int)) ss_nil) (ss_cons (s_if (t_cmp (o_eq F) (q_ix (q_var F 0) q_int) q_str) (ss_one (s_ret (q_call F 2 (d_L_pieces T n) (a_cons (q_ix (q_var F 0) q_int) (a_cons (q_bin o_sub (q_var F 1) q_int) (a_cons (q_var F 2) a_nil)))))) ss_nil) (ss_cons (s_if (QW.pt (w_or (t_not (t_val (q_isi F 4 5 isk_tuple T.n_isinstance T.n_tuple (by decide +kernel) (q_ix (q_var F 0) q_int)))) (w_or1 (t_not (t_chn o_le o_le q_int (q_callB F 6 c_len T.n_len (by decide +kernel) (a_cons (q_ix (q_var F 0) q_int) a_nil)) q_int))))) (ss_one (s_ret q_int)) ss_nil) (ss_one (s_ret (q_callB F 0 (c_min F) T.n_min (by decide +kernel) (a_cons q_int (a_cons (q_callB F 3 (c_sum F) T.n_sum (by decide +kernel) (a_cons (q_lc (own := [("_law_part", 3)]) F ⟨_, ["_law_thing", "_law_deep", "_law_within", "_law_part"], [3, 2, 1], [3], [], ["_law_pieces"]⟩ (.one 3) ⟨rfl, rfl, ⟨rfl, by decide +kernel, by decide +kernel, by decide +kernel, by decide +kernel⟩, by decide +kernel, by decide +kernel⟩ (by decide) (i_tup (q_ix (q_var F 0) q_int)) (fun _ F hw => ⟨(pgN F 3), ts_nil, (q_callW hw F 0 (d_L_pieces T n) (a_cons (q_var F 3) (a_cons (q_bin o_sub (q_var F 1) q_int) (a_cons (q_var F 2) a_nil))))⟩)) a_nil)) a_nil)))))))))))), ?_⟩
      cases d with
      | zero => exact h
      | succ d =>
        have no : pcs (d + 1) w x = none → Q (.d (.int 99)) M := fun e => ncast h (by rw [e]; rfl)
        obtain ⟨n, rfl⟩ : ∃ n', n = n' + 1 := ⟨n - 1, by omega⟩
        generalize hde : ((d + 1 : Nat) : Int) = de
        refine ifD (fun c => ?_) (fun _ => ?_)
        · exact absurd (show de < 1 from c) (by omega)
        cases x with
        | tuple xs =>
          refine ifD (fun c => ?_) (fun c => ?_)
          · have c : (xs.length : Int) < 2 := c
            refine no ?_
            match xs, c with
            | [], _ => rfl
            | [t], _ =>
              cases t with
              | str t => exact (show pcsStep (pcs d) w t [] = none from rfl)
              | _ => rfl
            | a :: b :: l, c => exact absurd c (by simp; omega)
          have c : ¬ (xs.length : Int) < 2 := c
          match xs, hx, h, no, c with
          | [], _, _, _, c => exact absurd (show ((0 : Nat) : Int) < 2 by decide) c
          | [_], _, _, _, c => exact absurd (show ((1 : Nat) : Int) < 2 by decide) c
          | t :: y :: r, hx, h, no, _ =>
            refine ⟨_, at0, ?_⟩
            cases t with
            | str t =>
              have ht : okT (.str t) := okT_mem hx List.mem_cons_self
              have j0 : inOk (.str t) ihD = true := in_lit ht (by decide +kernel) (by decide +kernel)
              have j1 : inOk (.str t) ftD = true := in_lit ht (by decide +kernel) (by decide +kernel)
              have j2 : inOk (.str t) anyD = true := in_lit ht (by decide +kernel) (by decide +kernel)
              have j3 : inOk (.str t) nao = true := in_lit ht (by decide +kernel) (by decide +kernel)
              have ps : pcs (d + 1) w (.tuple (.str t :: y :: r)) = pcsStep (pcs d) w t (y :: r) := rfl
              have p6 : powOk 10 6 := powOk_of (n := 4) (by decide) (by decide) (by decide)
              refine bqc true rfl (iteF ?_)
              dsimp only [tNxt]
              refine sq_cut (fun σ M' => σ = [some (.d (.tuple (.str t :: y :: r))), some (.d (.int de)), some (.d (.bool w)), none] ∧ M = M' ∧ (∀ z, r = [z] → inD (.str t) ihD = false)) (fun N hN => ?_) ?_
              · refine ⟨_, at0, sm2, j0, ?_⟩
                cases ha : inD (.str t) ihD with
                | false => exact bqc false (by first | exact ha | rfl) (hN _ _ ⟨rfl, rfl, fun _ _ => ha⟩)
                | true =>
                  refine bqc true (by first | exact ha | rfl) ?_
                  rcases r with _ | ⟨z, _ | ⟨u, l⟩⟩
                  · exact ⟨rfl, bqc false (by simp [PyData.eqv]) (hN _ _ ⟨rfl, rfl, fun _ e => by cases e⟩)⟩
                  · refine ⟨rfl, bqc true (by simp [PyData.eqv]) ⟨_, at1, y, rfl, okT_mem hx (by simp), ?_⟩⟩
                    have e1 : pcs (d + 1) w (.tuple [.str t, y, z]) = if (isName y && isName z) = true then some 1 else none := by
                      rw [ps]
                      unfold pcsStep
                      rw [piece2, ih_ks ha, ha]
                      show (if (true && isName y && isName z) = true then _ else if (inD (.str t) anyD && isName y && !w) = true then _ else none) = _
                      rw [ih_any ha]
                      simp
                    cases hn : isName y with
                    | false => exact bqc false (by first | exact hn | rfl) (no (by rw [e1, hn]; rfl))
                    | true =>
                      refine bqc true (by first | exact hn | rfl) ⟨_, at2, z, rfl, okT_mem hx (by simp), ?_⟩
                      cases hm : isName z with
                      | false => exact bqc false (by first | exact hm | rfl) (no (by rw [e1, hn, hm]; rfl))
                      | true => exact bqc true (by first | exact hm | rfl) (ncast h (by rw [e1, hn, hm]; rfl))
                  · exact ⟨rfl, bqc false (by simp [PyData.eqv]; omega) (hN _ _ ⟨rfl, rfl, fun _ e => by cases e⟩)⟩
              rintro _ _ ⟨rfl, rfl, q1⟩
              refine sq_cut (fun σ M' => σ = [some (.d (.tuple (.str t :: y :: r))), some (.d (.int de)), some (.d (.bool w)), none] ∧ M = M' ∧ (∀ z, r = [z] → isPiece t [y, z] = false)) (fun N hN => ?_) ?_
              · refine ⟨_, at0, sm2, j1, ?_⟩
                cases ha : inD (.str t) ftD with
                | false =>
                  refine bqc false (by first | exact ha | rfl) (hN _ _ ⟨rfl, rfl, fun z e => ?_⟩)
                  rw [piece2, no_ks (q1 z e) ha]
                  rfl
                | true =>
                  refine bqc true (by first | exact ha | rfl) ?_
                  rcases r with _ | ⟨z, _ | ⟨u, l⟩⟩
                  · exact ⟨rfl, bqc false (by simp [PyData.eqv]) (hN _ _ ⟨rfl, rfl, fun _ e => by cases e⟩)⟩
                  · refine ⟨rfl, bqc true (by simp [PyData.eqv]) ⟨_, at1, y, rfl, okT_mem hx (by simp), ?_⟩⟩
                    have e1 : pcs (d + 1) w (.tuple [.str t, y, z]) = if (isName y && isWithin z 0 1000000) = true then some 1 else none := by
                      rw [ps]
                      unfold pcsStep
                      rw [piece2, ft_ks ha, q1 z rfl]
                      show (if (true && isName y && isWithin z 0 1000000) = true then _ else if (inD (.str t) anyD && isName y && !w) = true then _ else none) = _
                      rw [ft_any ha]
                      simp
                    cases hn : isName y with
                    | false => exact bqc false (by first | exact hn | rfl) (no (by rw [e1, hn]; rfl))
                    | true =>
                      refine bqc true (by first | exact hn | rfl) ⟨_, at2, p6, z, 0, 1000000, rfl, ?_⟩
                      cases hm : isWithin z 0 1000000 with
                      | false => exact bqc false (by first | exact hm | rfl) (no (by rw [e1, hn, hm]; rfl))
                      | true => exact bqc true (by first | exact hm | rfl) (ncast h (by rw [e1, hn, hm]; rfl))
                  · exact ⟨rfl, bqc false (by simp [PyData.eqv]; omega) (hN _ _ ⟨rfl, rfl, fun _ e => by cases e⟩)⟩
              rintro _ _ ⟨rfl, rfl, q2⟩
              refine sq_cut (fun σ M' => σ = [some (.d (.tuple (.str t :: y :: r))), some (.d (.int de)), some (.d (.bool w)), none] ∧ M = M' ∧ (∀ z, r = [z] → pcs (d + 1) w (.tuple [.str t, y, z]) = none)) (fun N hN => ?_) ?_
              · refine ⟨_, at0, sm2, j2, ?_⟩
                have e0 : ∀ z, r = [z] → pcs (d + 1) w (.tuple [.str t, y, z]) = if (inD (.str t) anyD && isName y && !w) = true then pcs d true z else none := fun z e => by
                  show pcsStep (pcs d) w t [y, z] = _
                  unfold pcsStep
                  rw [q2 z e]
                  rfl
                cases ha : inD (.str t) anyD with
                | false => exact bqc false (by first | exact ha | rfl) (hN _ _ ⟨rfl, rfl, fun z e => by rw [e0 z e, ha]; rfl⟩)
                | true =>
                  refine bqc true (by first | exact ha | rfl) ?_
                  rcases r with _ | ⟨z, _ | ⟨u, l⟩⟩
                  · exact ⟨rfl, bqc false (by simp [PyData.eqv]) (hN _ _ ⟨rfl, rfl, fun _ e => by cases e⟩)⟩
                  · refine ⟨rfl, bqc true (by simp [PyData.eqv]) ⟨_, at1, y, rfl, okT_mem hx (by simp), ?_⟩⟩
                    cases hn : isName y with
                    | false => exact bqc false (by first | exact hn | rfl) (hN _ _ ⟨rfl, rfl, fun z' e => by rw [e0 z' e, hn]; simp⟩)
                    | true =>
                      refine bqc true (by first | exact hn | rfl) ?_
                      cases w with
                      | true => exact hN _ _ ⟨rfl, rfl, fun z' e => by rw [e0 z' e]; simp⟩
                      | false =>
                        refine ⟨_, at2, z, d, true, ?_, by omega, okT_mem hx (by simp), ncast h (congrArg lawN (by rw [e0 z rfl, ha, hn]; rfl))⟩
                        show [W.d z, .d (.int (de - 1)), .d (.bool true)] = _
                        rw [show de - 1 = (d : Int) by omega]
                  · exact ⟨rfl, bqc false (by simp [PyData.eqv]; omega) (hN _ _ ⟨rfl, rfl, fun _ e => by cases e⟩)⟩
              rintro _ _ ⟨rfl, rfl, q3⟩
              refine sq_cut (fun σ M' => σ = [some (.d (.tuple (.str t :: y :: r))), some (.d (.int de)), some (.d (.bool w)), none] ∧ M = M' ∧ r = [] ∧ inD (.str t) nao = true) (fun N hN => ?_) ?_
              · refine ⟨neD_int, ?_⟩
                rcases r with _ | ⟨z, l⟩
                · refine bqc false (by simp [PyData.eqv]) ⟨_, at0, sm3, j3, ?_⟩
                  cases ha : inD (.str t) nao with
                  | true => exact bqc false (by show (if true = true then !inD (.str t) nao else _) = false; rw [ha]; rfl) (hN _ _ ⟨rfl, rfl, rfl, ha⟩)
                  | false =>
                    refine bqc true (by show (if true = true then !inD (.str t) nao else _) = true; rw [ha]; rfl) (no ?_)
                    obtain ⟨a1, a2⟩ := nao_no ha
                    show (if PyData.eqv (.str t) (.str "not") = true then _ else if inD (.str t) joinD = true then _ else none) = none
                    rw [a1, a2]
                    rfl
                · refine bqc true (by simp [PyData.eqv]; omega) (no ?_)
                  rcases l with _ | ⟨u, l⟩
                  · exact q3 z rfl
                  · rfl
              rintro _ _ ⟨rfl, rfl, rfl, q4⟩
              have e0 : pcs (d + 1) w (.tuple [.str t, y]) = if PyData.eqv (.str t) (.str "not") = true then pcs d w y else if inD (.str t) joinD = true then joinP (pcs d w) y else none := rfl
              refine sq_cut (fun σ M' => σ = [some (.d (.tuple [.str t, y])), some (.d (.int de)), some (.d (.bool w)), none] ∧ M = M' ∧ PyData.eqv (.str t) (.str "not") = false) (fun N hN => ?_) ?_
              · refine ⟨_, at0, rfl, ?_⟩
                cases hn : PyData.eqv (.str t) (.str "not") with
                | false => exact bqc false (by first | exact hn | rfl) (hN _ _ ⟨rfl, rfl, hn⟩)
                | true =>
                  refine bqc true (by first | exact hn | rfl) ⟨_, at1, y, d, w, ?_, by omega, okT_mem hx (by simp), ncast h (congrArg lawN (by rw [e0, hn]; rfl))⟩
                  show [W.d y, .d (.int (de - 1)), .d (.bool w)] = _
                  rw [show de - 1 = (d : Int) by omega]
              rintro _ _ ⟨rfl, rfl, q5⟩
              have e1 : pcs (d + 1) w (.tuple [.str t, y]) = joinP (pcs d w) y := by
                rw [e0, q5, nao_join q4 q5]
                rfl
              have hy : okT y := okT_mem hx (by simp)
              refine ⟨_, at1, ?_⟩
              cases y with
              | tuple zs => ?_
              | _ => exact no e1
              refine bqc true rfl (iteF ⟨_, at1, ?_⟩)
              by_cases h1 : (2 : Int) ≤ (zs.length : Int)
              case neg =>
                refine ifD (fun c => absurd c h1) (fun _ => ?_)
                exact no (by rw [e1]; unfold joinP sumP; simp only; rw [if_neg]; simp; omega)
              refine ifD (fun _ => ?_) (fun c => absurd h1 c)
              dsimp only [tK, rInt0]
              by_cases h2 : (zs.length : Int) ≤ 6
              case neg =>
                refine bqc false (decide_eq_false h2) ?_
                exact no (by rw [e1]; unfold joinP sumP; simp only; rw [if_neg]; simp; omega)
              refine bqc true (decide_eq_true h2) (iteF ?_)
              dsimp only [tNxt]
              refine ⟨_, at1, ?_⟩
              refine lcA (T := .one 3) (fun v => match v with | .d p => .int (lawN (pcs d w p)) | _ => .none) ?_ (fun _ _ _ => trivial) ?_ ?_
              · simpa using okT_len hy
              · intro v hv M2 _ R r
                obtain ⟨p, hp, rfl⟩ := List.mem_map.mp hv
                refine ⟨p, d, w, ?_, by omega, okT_mem hy hp, r⟩
                show [W.d p, .d (.int (de - 1)), .d (.bool w)] = _
                rw [show de - 1 = (d : Int) by omega]
              · have e : (zs.map W.d).map (fun v => match v with | .d p => PyData.int (lawN (pcs d w p)) | _ => .none) = (zs.map fun p => ((lawN (pcs d w p) : Nat) : Int)).map PyData.int := by
                  rw [List.map_map, List.map_map]
                  rfl
                rw [e]
                show (match intsD ((zs.map fun p => ((lawN (pcs d w p) : Nat) : Int)).map PyData.int) with | some ns => Q (.d (.int (min 99 ns.sum))) M | none => False)
                rw [intsD_map]
                have two : (decide (2 ≤ zs.length) && decide (zs.length ≤ 6)) = true := by simp; omega
                have := sum_law (pcs d w) zs (by intro z; rw [z] at h1; exact absurd h1 (by decide))
                show Q (.d (.int (min 99 _))) M
                rw [e1] at h
                have e2 : joinP (pcs d w) (.tuple zs) = if (zs.all fun p => (pcs d w p).isSome) = true then some (zs.map fun p => (pcs d w p).getD 0).sum else none := by
                  show sumP (pcs d w) zs = _
                  unfold sumP
                  rw [if_pos two]
                rw [e2, ← this.1] at h
                rw [this.2]
                exact h
            | _ => exact no rfl
        | _ => exact no rfl
end Ms
set_option Elab.async false
set_option linter.all false
set_option maxRecDepth 100000
namespace Ms
open PySem PySem.Spec PyProof.Rows L2 Dl
theorem d_L_is_condition {g : Gc} (T : Txt g) : Df g 11 "_law_is_condition" ["_law_thing"] (sp1 okT fun x => .bool (isCond x)) := by
  refine df_of (k := 10) (i := i_L_is_condition) T.p_L_is_condition T.sy sc_L_is_condition ok_L_is_condition (fun _ _ _ _ _ _ us hl => match us, hl with | [_], _ => rfl) ?_ (fun Y ws M Q E F hE h => ?_)
  · exact sp1_len
  · obtain ⟨x, rfl, hx, h⟩ := h
    refine ⟨_, (ss_one (s_ret (q_cmp o_le (q_call F 0 (d_L_pieces T 7) (a_cons (q_var F 0) (a_cons q_int (a_cons q_bool a_nil)))) q_int))), ?_⟩
    refine ⟨x, 6, false, rfl, Nat.le_refl _, hx, ?_⟩
    refine qcast h ?_
    unfold isCond condO lawN
    cases pcs 6 false x with
    | none => rfl
    | some n =>
      show decide ((n : Int) ≤ 30) = decide (((min 99 n : Nat) : Int) ≤ 30)
      apply decide_eq_decide.mpr
      omega
theorem d_L_pot {g : Gc} (T : Txt g) : Df g 1 "_law_pot" ["_law_script", "_law_k"] spPot := by
  refine df_of (k := 0) (i := i_L_pot) T.p_L_pot T.sy sc_L_pot ok_L_pot (fun _ _ _ _ _ _ us hl => match us, hl with | [_, _], _ => rfl) ?_ (fun Y ws M Q E F hE h => ?_)
  · exact spPot_len
  · obtain ⟨ns, k, rfl, h0, hk, h⟩ := h
    refine ⟨_, (ss_cons (s_set q_int (g_name F 2)) (ss_cons (s_if (t_cmp o_lt (q_var F 1) (q_callB F 0 c_len T.n_len (by decide +kernel) (a_cons (q_var F 0) a_nil))) (ss_one (s_set (q_bin o_mod (q_callB F 1 c_abs T.n_abs (by decide +kernel) (a_cons (q_ix (q_var F 0) (q_var F 1)) a_nil)) (q_bin o_pow (q_bin o_pow q_int q_int) q_int)) (g_name F 2))) ss_nil) (ss_one (s_ret (q_lstM (a_cons (q_bin o_mul (q_var F 2) (q_callT F 2 c_int T.n_int (by decide +kernel) (a_cons (q_cmp o_ge (q_var F 2) (q_bin o_pow q_int q_int)) a_nil))) (a_cons (q_bin o_mod (q_bin o_pow (q_bin o_add (q_bin o_add (q_bin o_mod (q_var F 2) q_int) (q_bin o_mul q_int (q_var F 1))) q_int) q_int) q_int) (a_cons q_int a_nil)))))))), ?_⟩
    have fin := fun (c : Int) (c0 : 0 ≤ c) (c1 : c.natAbs < 2 ^ 2000) (b : Bool) => pot_made (c := c) (k := k) (b := b) c0 c1 h0 hk
    refine ifD (fun hc => ?_) (fun hc => ?_)
    · have hl : k < ((ns.map PyData.int).length : Int) := hc
      obtain ⟨j, rfl⟩ := Int.eq_ofNat_of_zero_le h0
      have hj : j < ns.length := by simp at hl; omega
      obtain ⟨p1, p2, p3, p4, p5⟩ := pot_cell ns[j]
      obtain ⟨q1, q2, q3, q4, q5, q6, q7⟩ := fin _ p4 p5 (decide ((ns[j].natAbs : Int).fmod bigM ≥ (10 : Int) ^ (18 : Int).toNat))
      exact ⟨PyData.int ns[j], atI_nat (by simp [hj]), p1, p2, p3.1, q1, q2, q3.1, q4, q5, q6.1, small_of (show 3 ≤ 16777216 by decide), fun p np => h p _ np (q7 p M) oth_set⟩
    · obtain ⟨q1, q2, q3, q4, q5, q6, q7⟩ := fin 0 (by decide) (Nat.two_pow_pos _) (decide ((0 : Int) ≥ (10 : Int) ^ (18 : Int).toNat))
      exact ⟨q1, q2, q3.1, q4, q5, q6.1, small_of (show 3 ≤ 16777216 by decide), fun p np => h p _ np (q7 p M) oth_set⟩
theorem d_L_take {g : Gc} (T : Txt g) : Df g 1 "_law_take" ["_law_pot_here", "_law_many"] spTake := by
  refine df_of (k := 0) (i := i_L_take) T.p_L_take T.sy sc_L_take ok_L_take (fun _ _ _ _ _ _ us hl => match us, hl with | [_, _], _ => rfl) ?_ (fun Y ws M Q E F hE h => ?_)
  · exact spTake_len
  · obtain ⟨a, n, m, rfl, h1, hm, hn, hp, h⟩ := h
    refine ⟨_, (ss_cons (s_if (t_cmp o_gt (q_ix (q_var F 0) q_int) q_int) (ss_cons (s_set (q_bin o_mod (q_ix (q_var F 0) q_int) (q_var F 1)) (g_name F 2)) (ss_cons (s_set (q_bin o_fdiv (q_ix (q_var F 0) q_int) (q_var F 1)) (g_sub (q_var F 0) q_int)) (ss_one (s_ret (q_var F 2))))) ss_nil) (ss_cons (s_set (q_bin o_add (q_ix (q_var F 0) q_int) q_int) (g_sub (q_var F 0) q_int)) (ss_cons (s_set (q_bin o_mod (q_bin o_pow (q_bin o_add (q_ix (q_var F 0) q_int) (q_bin o_mul q_int (q_ix (q_var F 0) q_int))) q_int) q_int) (g_name F 3)) (ss_cons (s_set (q_bin o_mod (q_bin o_pow (q_bin o_add (q_bin o_add (q_var F 3) (q_bin o_mod (q_ix (q_var F 0) q_int) q_int)) (q_bin o_mul q_int (q_ix (q_var F 0) q_int))) q_int) q_int) (g_name F 4)) (ss_one (s_ret (q_bin o_mod (q_bin o_fdiv (q_var F 4) q_int) (q_var F 1)))))))), ?_⟩
    obtain ⟨x, y, z, hM, hx0, hx, hy0, hy, hz0, hz⟩ := hp
    refine ⟨_, hM, _, at0, ?_⟩
    refine ifD (fun hc => ?_) (fun hc => ?_)
    · obtain ⟨t1, t2, t3, t4, t5⟩ := take_full hc hx h1 hm
      exact ⟨_, hM, _, at0, t1.1, _, hM, _, at0, t1, _, hM, 0, rfl, h _ _ t2 t3 ⟨_, _, _, mset_same, t4, t5, hy0, hy, hz0, by omega⟩ oth_set⟩
    · have hM2 : mset M a (.lst [.d (.int x), .d (.int y), .d (.int (z + 1))]) a = _ := mset_same
      obtain ⟨t1, t2, t3, t4, t5, t6, t7, t8, t9, t10, t11⟩ := take_none (y := y) (z := z + 1) (m := m) hy0 hy (by omega) (by omega) h1 hm
      exact ⟨_, hM, _, at2, _, hM, 2, rfl, _, hM2, _, at1, _, hM2, _, at2, t1, t2, t3.1, _, hM2, _, at1, t4.1, _, hM2, _, at2, t5, t6, t7.1, t8, t9.1, h _ _ t10 t11 ⟨_, _, _, hM2, hx0, hx, hy0, hy, by omega, by omega⟩ oth_set⟩
theorem sp_use {g : Gc} {Y : Dx} {a : Addr} {n : Nat} {m : Int} {M : MH} {Q : W → MH → Prop} {E : XD} (h1 : 1 ≤ m) (hm : m.natAbs < 2 ^ 2000) (hn : n < lots) (hp : Pot a n M) (k : ∀ r M', 0 ≤ r → r < m → Pot a (n + 1) M' → Oth a M M' → Q (.d (.int r)) M') : spTake [.ref a, .d (.int m)] M Q E := ⟨a, n, m, rfl, h1, hm, hn, hp, k⟩
/-- a name drawn -/
def spName : SpD := fun ws M Q _ => ∃ (a : Addr) (n : Nat), ws = [.ref a] ∧ n + 10 ≤ lots ∧ Pot a n M ∧ ∀ z M', isNameS z = true → Pot a (n + 10) M' → Oth a M M' → Q (.d (.str z)) M'
theorem spName_len : ∀ ws M Q E, spName ws M Q E → ws.length = 1 := by rintro _ _ _ _ ⟨a, n, rfl, _⟩; rfl
theorem word_q : ∀ y ∈ wordsD, ∀ z, PyData.eqv y (.str z) = true → isNameS (z ++ "q") = true := by
  intro y hy z he
  simp only [wordsD, List.mem_cons, List.not_mem_nil, or_false] at hy
  rcases hy with rfl | rfl | rfl | rfl | rfl | rfl | rfl | rfl | rfl | rfl | rfl | rfl | rfl | rfl | rfl | rfl | rfl | rfl | rfl | rfl | rfl <;>
    (simp only [PyData.eqv, beq_iff_eq] at he; subst he; decide +kernel)
theorem abc_get {r : Int} (h0 : 0 ≤ r) (h : r < 26) : ∃ c, atI ("abcdefghijklmnopqrstuvwxyz" : Str).cps.toList r = some c ∧ isLow c = true := by
  have e : ("abcdefghijklmnopqrstuvwxyz" : Str).cps.toList = List.range' 97 26 := by decide +kernel
  rw [e]
  obtain ⟨c, h1, h2⟩ := atI_mem (xs := List.range' 97 26) h0 (by simpa using h)
  refine ⟨c, h1, ?_⟩
  rw [List.mem_range'_1] at h2
  simp [isLow]
  omega
theorem cps_app (x y : Str) : (x ++ y).cps.toList = x.cps.toList ++ y.cps.toList := by
  show (x.cps ++ y.cps).toList = _
  simp
theorem d_L_name {g : Gc} (T : Txt g) : Df g 2 "_law_name" ["_law_pot_here"] spName := by
  refine df_of (k := 1) (i := i_L_name) T.p_L_name T.sy sc_L_name ok_L_name (fun _ _ _ _ _ _ us hl => match us, hl with | [_], _ => rfl) ?_ (fun Y ws M Q E F hE h => ?_)
  · exact spName_len
  · obtain ⟨a, n, rfl, hn, hp, h⟩ := h
    refine ⟨_, (ss_cons (s_if (t_cmp (o_eq F) (q_call F 1 (d_L_take T) (a_cons (q_var F 0) (a_cons q_int a_nil))) q_int) (ss_one (s_ret (q_ix (q_lst (a_cons q_str (a_cons q_str (a_cons q_str (a_cons q_str (a_cons q_str (a_cons q_str (a_cons q_str (a_cons q_str (a_cons q_str (a_cons q_str (a_cons q_str (a_cons q_str a_nil))))))))))))) (q_call F 1 (d_L_take T) (a_cons (q_var F 0) (a_cons q_int a_nil)))))) ss_nil) (ss_cons (s_set q_str (g_name F 1)) (ss_cons (s_set q_str (g_name F 2)) (ss_cons (s_for F (i_rng1 F 0 T.n_range (a_cons (q_bin o_add q_int (q_call F 1 (d_L_take T) (a_cons (q_var F 0) (a_cons q_int a_nil)))) a_nil)) (g_name F 3) (ss_one (s_set (q_bin o_add (q_var F 2) (q_ix (q_var F 1) (q_call F 1 (d_L_take T) (a_cons (q_var F 0) (a_cons q_int a_nil))))) (g_name F 2)))) (ss_cons (s_if (t_cmp (o_in F) (q_var F 2) (q_call0 F 2 (d_L_words T))) (ss_one (s_set (q_bin o_add (q_var F 2) q_str) (g_name F 2))) ss_nil) (ss_one (s_ret (q_var F 2)))))))), ?_⟩
    refine ⟨a, n, 4, rfl, by decide, by decide, by omega, hp, fun r1 M1 a1 b1 p1 o1 => ⟨rfl, ?_⟩⟩
    cases hr : PyData.eqv (.int r1) (.int 0) with
    | true =>
      refine bqc true (by first | exact hr | rfl) ⟨sm12, a, _, 12, rfl, by decide, by decide, by omega, p1, fun r2 M2 a2 b2 p2 o2 => ?_⟩
      obtain ⟨d, hd, hm⟩ := atI_mem (xs := [PyData.str "isa", .str "no", .str "a", .str "zzzzzzzz", .str "ends", .str "ifs", .str "hase", .str "fro", .str "t", .str "picks", .str "an", .str "counts"]) a2 b2
      refine ⟨d, hd, ?_⟩
      simp only [List.mem_cons, List.not_mem_nil, or_false] at hm
      have p3 := p2.mono (show n + 1 + 1 ≤ n + 10 by omega)
      have o3 := o1.trans o2
      rcases hm with rfl | rfl | rfl | rfl | rfl | rfl | rfl | rfl | rfl | rfl | rfl | rfl <;> exact h _ _ (by decide +kernel) p3 o3
    | false =>
      refine bqc false (by first | exact hr | rfl) ?_
      refine ⟨a, _, 8, rfl, by decide, by decide, by omega, p1, fun r2 M2 a2 b2 p2 o2 => ?_⟩
      refine ⟨⟨by omega, by omega⟩, fun j σ M' => ∃ z x, σ = [some (.ref a), some (.d (.str "abcdefghijklmnopqrstuvwxyz")), some (.d (.str z)), x] ∧ z.length = j ∧ j ≤ 8 ∧ z.cps.toList.all isLow = true ∧ Pot a (n + 2 + j) M' ∧ Oth a M M', ⟨"", _, rfl, rfl, by decide, rfl, p2, o1.trans o2⟩, fun _ _ _ _ => trivial, ?_, ?_⟩
      · rintro j w σ M3 hj ⟨z, x, rfl, hl, hj8, hz, p3, o3⟩
        obtain ⟨hj', rfl⟩ := rng_get hj
        have j8 : j < 8 := by omega
        refine ⟨a, _, 26, rfl, by decide, by decide, by omega, p3, fun r3 M4 a3 b3 p4 o4 => ?_⟩
        obtain ⟨c, hc, lc⟩ := abc_get a3 b3
        refine ⟨small_of (show 26 ≤ 16777216 by decide), c, hc, small_of (by rw [hl]; show j + 1 ≤ 16777216; omega), _, _, rfl, ?_, by omega, ?_, p4, o3.trans o4⟩
        · show (z ++ ⟨#[c]⟩ : Str).length = j + 1
          rw [strLen_append, hl]
          rfl
        · rw [cps_app, List.all_append, hz]
          simp [lc]
      · rintro σ M3 ⟨z, x, rfl, hl, hj8, hz, p3, o3⟩
        rw [rng_len] at hl p3
        have l1 : 1 ≤ z.length := by omega
        have l8 : z.length ≤ 8 := by omega
        have lay : (PyData.str z).canLay0 = true := by
          simp only [PyData.canLay0, PyData.strOk, Array.all_eq_true]
          intro i hi
          have := List.all_eq_true.mp hz z.cps[i] (by simp)
          simp only [isLow, Bool.and_eq_true, decide_eq_true_eq] at this
          simp
          omega
        have p5 : Pot a (n + 10) M3 := p3.mono (by omega)
        refine ⟨rfl, in_words lay, ?_⟩
        cases hw : inD (.str z) wordsD with
        | true =>
          refine bqc true (by first | exact hw | rfl) ⟨small_of (by show z.length + 1 ≤ _; omega), ?_⟩
          refine h _ _ ?_ p5 o3
          unfold inD at hw
          obtain ⟨y, hy, e⟩ := List.any_eq_true.mp hw
          exact word_q y hy z e
        | false =>
          refine bqc false (by first | exact hw | rfl) ?_
          exact h z _ (by simp [isNameS, hw, hz, l1, l8]) p5 o3
abbrev B1 : Nat := 2 ^ 140
abbrev B2 : Nat := 2 ^ 141
/-- something drawn that is within sizes -/
def spDr (c : Nat) (P : PyData → Prop) : SpD := fun ws M Q _ => ∃ (a : Addr) (n : Nat), ws = [.ref a] ∧ n + c ≤ lots ∧ Pot a n M ∧ ∀ x M', P x → Pot a (n + c) M' → Oth a M M' → Q (.d x) M'
theorem spDr_len {c P} : ∀ ws M Q E, spDr c P ws M Q E → ws.length = 1 := by rintro _ _ _ _ ⟨a, n, rfl, _⟩; rfl
def oddD : List PyData := [.none, .bool true, .bool false, .str "", .str "ask", .str "A", .str "a1", .str "ninelongs", .int 0, .int (-1), .int 1000001, .int (10 ^ 39), .tuple [], .list [], .dict [], .tuple [.str "a"], .str "a b", .str "z", .str "every", .list [.str "a"], .tuple [.tuple []], .str "count"]
theorem odd_fn : ∀ x ∈ oddD, Fn B1 200 2 x := by
  intro x hx
  have h : oddD.all (fun x => okL B1 x && decide (x.weight ≤ 200) && decide (x.depth ≤ 2)) = true := by decide +kernel
  have := List.all_eq_true.mp h x hx
  simp only [Bool.and_eq_true, decide_eq_true_eq] at this
  exact ⟨this.1.1, this.1.2, this.2⟩
theorem d_L_odd {g : Gc} (T : Txt g) : Df g 2 "_law_odd" ["_law_pot_here"] (spDr 1 (Fn B1 200 2)) := by
  refine df_of (k := 1) (i := i_L_odd) T.p_L_odd T.sy sc_L_odd ok_L_odd (fun _ _ _ _ _ _ us hl => match us, hl with | [_], _ => rfl) ?_ (fun Y ws M Q E F hE h => ?_)
  · exact spDr_len
  · obtain ⟨a, n, rfl, hn, hp, h⟩ := h
    refine ⟨_, (ss_one (s_ret (q_ix (q_lst (a_cons q_none (a_cons q_bool (a_cons q_bool (a_cons q_str (a_cons q_str (a_cons q_str (a_cons q_str (a_cons q_str (a_cons q_int (a_cons (q_neg q_int) (a_cons (q_bin o_add (q_bin o_pow q_int q_int) q_int) (a_cons (q_bin o_pow q_int q_int) (a_cons (q_tup a_nil) (a_cons (q_lst a_nil) (a_cons q_dct0 (a_cons (q_tup (a_cons q_str a_nil)) (a_cons q_str (a_cons q_str (a_cons q_str (a_cons (q_lst (a_cons q_str a_nil)) (a_cons (q_tup (a_cons (q_tup a_nil) a_nil)) (a_cons q_str a_nil))))))))))))))))))))))) (q_call F 0 (d_L_take T) (a_cons (q_var F 0) (a_cons q_int a_nil)))))), ?_⟩
    have p6 : powOk 10 6 := powOk_of (n := 4) (by decide) (by decide) (by decide)
    have p39 : powOk 10 39 := powOk_of (n := 4) (by decide) (by decide) (by decide)
    refine ⟨p6, p39, sm0, sm0, sm1, sm1, sm0, sm1, sm22, ?_⟩
    refine ⟨a, n, 22, rfl, by decide, by decide, by omega, hp, fun r M1 a1 b1 p1 o1 => ?_⟩
    obtain ⟨d, hd, hm⟩ := atI_mem (xs := oddD) a1 (show r < (oddD.length : Int) from b1)
    exact ⟨d, hd, h d M1 (odd_fn d hm) p1 o1⟩
theorem nodup_sub : ∀ {l m : List Str}, l.Nodup → (∀ x ∈ l, x ∈ m) → l.length ≤ m.length
  | [], _, _, _ => Nat.zero_le _
  | x :: l, m, hn, hs => by
    have hx : x ∈ m := hs x List.mem_cons_self
    have hn' := List.nodup_cons.mp hn
    have := nodup_sub (l := l) (m := m.erase x) hn'.2 fun y hy => by
      have : y ≠ x := by rintro rfl; exact hn'.1 hy
      exact (List.mem_erase_of_ne this).mpr (hs y (List.mem_cons_of_mem _ hy))
    rw [List.length_erase_of_mem hx] at this
    have hp : 0 < m.length := List.length_pos_of_mem hx
    simp only [List.length_cons]
    omega
def xsS : List Str := ["xa", "xb", "xc", "xd", "xe"]
theorem xs_nm : ∀ z ∈ xsS, isNameS z = true := by
  intro z hz
  simp only [xsS, List.mem_cons, List.not_mem_nil, or_false] at hz
  rcases hz with rfl | rfl | rfl | rfl | rfl <;> decide +kernel
theorem xs_free {zs : List Str} (h : zs.length < 5) : ∃ z r, (xsS.filter fun x => !decide (x ∈ zs)) = z :: r ∧ isNameS z = true := by
  cases e : xsS.filter fun x => !decide (x ∈ zs) with
  | nil =>
    have := nodup_sub (l := xsS) (m := zs) (by decide +kernel) fun x hx => by
      have := List.filter_eq_nil_iff.mp e x hx
      simpa using this
    have l5 : xsS.length = 5 := rfl
    omega
  | cons z r =>
    refine ⟨z, r, rfl, xs_nm z ?_⟩
    have : z ∈ xsS.filter fun x => !decide (x ∈ zs) := by rw [e]; exact List.mem_cons_self
    exact (List.mem_filter.mp this).1
def Nms (x : PyData) : Prop := ∃ zs : List Str, x = .list (zs.map PyData.str) ∧ zs.length = 4 ∧ ∀ z ∈ zs, isNameS z = true
theorem name_sok {z : Str} (h : isNameS z = true) : PyData.strOk z = true := by
  simp only [isNameS, Bool.and_eq_true] at h
  simp only [PyData.strOk, Array.all_eq_true]
  intro i hi
  have := List.all_eq_true.mp h.2 z.cps[i] (by simp)
  simp only [isLow, Bool.and_eq_true, decide_eq_true_eq] at this
  simp
  omega
theorem name_len8 {z : Str} (h : isNameS z = true) : z.length ≤ 8 := by
  simp only [isNameS, Bool.and_eq_true, decide_eq_true_eq] at h
  exact h.1.1.2
theorem strsA_lay : ∀ {zs : List Str}, (∀ z ∈ zs, PyData.strOk z = true) → PyData.canLayAll0 (zs.map PyData.str) = true ∧ PyData.depthAll (zs.map PyData.str) = 0
  | [], _ => ⟨rfl, rfl⟩
  | z :: zs, h => by
    obtain ⟨h1, h2⟩ := strsA_lay (zs := zs) fun x hx => h x (List.mem_cons_of_mem _ hx)
    constructor
    · simp only [List.map_cons, PyData.canLayAll0, PyData.canLay0, Bool.and_eq_true]
      exact ⟨h z List.mem_cons_self, h1⟩
    · simp [PyData.depthAll, PyData.depth, h2]
theorem inA_strs {z : Str} {zs : List Str} (h : ∀ x ∈ zs, PyData.strOk x = true) (hz : PyData.strOk z = true) : inOk (.str z) (zs.map PyData.str) = true := by
  obtain ⟨h1, h2⟩ := strsA_lay h
  unfold inOk
  rw [h1, h2, show (PyData.str z).canLay0 = true from hz]
  simp
theorem map_filter_str (zs l : List Str) : ((((l.map PyData.str).map W.d).filter fun w => match w with | .d x => !inD x (zs.map PyData.str) | _ => false).map unW) = (l.filter fun x => !decide (x ∈ zs)).map PyData.str := by
  induction l with
  | nil => rfl
  | cons x l ih =>
    rw [List.map_cons, List.map_cons, List.filter_cons, List.filter_cons]
    have e0 : (match W.d (PyData.str x) with | .d x => !inD x (zs.map PyData.str) | _ => false) = !decide (x ∈ zs) := by
      show (!inD (PyData.str x) (zs.map PyData.str)) = _
      rw [inD_strs x zs]
    rw [e0]
    cases h : !decide (x ∈ zs) with
    | true => rw [if_pos rfl, if_pos rfl, List.map_cons, List.map_cons, ih]; rfl
    | false => rw [if_neg (by decide), if_neg (by decide), ih]
theorem d_L_names {g : Gc} (T : Txt g) : Df g 3 "_law_names" ["_law_pot_here"] (spDr 40 Nms) := by
  refine df_of (k := 2) (i := i_L_names) T.p_L_names T.sy sc_L_names ok_L_names (fun _ _ _ _ _ _ us hl => match us, hl with | [_], _ => rfl) ?_ (fun Y ws M Q E F hE h => ?_)
  · exact spDr_len
  · obtain ⟨a, n, rfl, hn, hp, h⟩ := h
    refine ⟨_, (ss_cons (s_set (q_lstM a_nil) (g_cell F 1)) (ss_cons (s_for F (i_rng1 F 0 T.n_range (a_cons q_int a_nil)) (g_name F 2) (ss_cons (s_set (q_call F 1 (d_L_name T) (a_cons (q_var F 0) a_nil)) (g_name F 3)) (ss_cons (s_if (t_cmp (o_in F) (q_var F 3) (q_var F 1)) (ss_one (s_set (q_ix (q_lc (own := [("_law_other", 4)]) F ⟨_, ["_law_pot_here", "_law_found", "_law_turn", "_law_name_here", "_law_other"], [4, 1], [4], [], []⟩ (.one 4) ⟨rfl, rfl, ⟨rfl, by decide +kernel, by decide +kernel, by decide +kernel, by decide +kernel⟩, by decide +kernel, by decide +kernel⟩ (by decide) (i_tup (q_tup (a_cons q_str (a_cons q_str (a_cons q_str (a_cons q_str (a_cons q_str a_nil))))))) (fun _ F hw => ⟨(pgN F 4), (ts_one (t_cmp (o_notIn F) (q_var F 4) (q_var F 1))), (q_var F 4)⟩)) q_int) (g_name F 3))) ss_nil) (ss_one (s_expr (q_met m_append (q_var F 1) (a_cons (q_var F 3) a_nil))))))) (ss_one (s_ret (q_frz (q_var F 1)))))), ?_⟩
    refine ⟨sm0, fun f nf => ?_⟩
    have fa : a ≠ f := hp.ne nf
    have hp0 : Pot a n (mset M f (.lst [])) := hp.of (mset_ne fa)
    have o0 : Oth a M (mset M f (.lst [])) := fun b o nb e => by rw [mset_ne (by rintro rfl; rw [nf] at e; cases e)]; exact e
    refine ⟨⟨by omega, by omega⟩, fun j σ M' => ∃ zs x y, σ = [some (.ref a), some (.ref f), x, y, none] ∧ j ≤ 4 ∧ zs.length = j ∧ (∀ z ∈ zs, isNameS z = true) ∧ M' f = some (.lst ((zs.map PyData.str).map W.d)) ∧ Pot a (n + 10 * j) M' ∧ Oth a M M', ⟨[], _, _, rfl, by omega, rfl, by simp, mset_same, hp0, o0⟩, fun _ _ _ _ => trivial, ?_, ?_⟩
    · rintro j w σ M2 hj ⟨zs, x, y, rfl, hj4, hl, hnm, hf, p2, o2⟩
      obtain ⟨hj', rfl⟩ := rng_get hj
      have j4 : j < 4 := by omega
      refine ⟨a, _, rfl, by omega, p2, fun z M3 hz p3 o3 => ?_⟩
      have f3 : M3 f = some (.lst ((zs.map PyData.str).map W.d)) := o3 f _ fa.symm hf
      have fin : ∀ y : Str, isNameS y = true → ∀ x : Option W, ∃ (zs' : List Str) (x' y' : Option W), [some (W.ref a), some (.ref f), x, some (.d (.str y)), none] = [some (.ref a), some (.ref f), x', y', none] ∧ j + 1 ≤ 4 ∧ zs'.length = j + 1 ∧ (∀ z ∈ zs', isNameS z = true) ∧ (mset M3 f (.lst ((zs.map PyData.str).map W.d ++ [.d (.str y)]))) f = some (.lst ((zs'.map PyData.str).map W.d)) ∧ Pot a (n + 10 * (j + 1)) (mset M3 f (.lst ((zs.map PyData.str).map W.d ++ [.d (.str y)]))) ∧ Oth a M (mset M3 f (.lst ((zs.map PyData.str).map W.d ++ [.d (.str y)]))) := by
        intro y hy x
        refine ⟨zs ++ [y], _, _, rfl, by omega, by simp [hl], ?_, ?_, ?_, ?_⟩
        · intro z hz
          rcases List.mem_append.mp hz with h | h
          · exact hnm z h
          · rw [List.mem_singleton.mp h]; exact hy
        · rw [mset_same]; simp
        · exact (p3.mono (by omega)).of (mset_ne fa)
        · intro b o nb e
          rw [mset_ne (by rintro rfl; rw [nf] at e; cases e)]
          exact o3 b o nb (o2 b o nb e)
      have lz : ((zs.map PyData.str).map W.d).length < sizeLine := by rw [List.length_map, List.length_map, sizeLine_eq]; omega
      dsimp only [gNam]
      refine sq_cut (fun σ M' => ∃ y, isNameS y = true ∧ σ = [some (.ref a), some (.ref f), some (.d (.int (0 + (j : Int)))), some (.d (.str y)), none] ∧ M3 = M') (fun N hN => ?_) ?_
      · refine ⟨_, f3, dataQ_of ⟨inA_strs (fun x hx => name_sok (hnm x hx)) (name_sok hz), ?_⟩⟩
        refine bq (ifB (fun _ => ?_) (fun _ => hN _ _ ⟨z, hz, rfl, rfl⟩))
        refine ⟨sm5, ?_⟩
        obtain ⟨u, r, e, hu⟩ := xs_free (zs := zs) (by omega)
        have e' := map_filter_str zs xsS
        rw [e] at e'
        refine lcPe (T := .one 4) (fun w => match w with | .d x => !inD x (zs.map PyData.str) | _ => false) unW _ e' ?_ (fun _ _ _ => trivial) ?_ ?_
        · decide
        · intro w hw M4 hk
          obtain ⟨d, hd, rfl⟩ := List.mem_map.mp hw
          obtain ⟨u, hu, rfl⟩ : ∃ u ∈ xsS, d = .str u := by
            simp only [List.mem_cons, List.not_mem_nil, or_false] at hd
            rcases hd with rfl | rfl | rfl | rfl | rfl <;> exact ⟨_, by decide +kernel, rfl⟩
          refine ⟨fun R r => ⟨_, hk _ _ f3, dataQ_of ⟨inA_strs (fun x hx => name_sok (hnm x hx)) (name_sok (xs_nm u hu)), bq r⟩⟩, fun _ R r => r⟩
        · exact ⟨_, at0, hN _ _ ⟨u, hu, rfl, rfl⟩⟩
      · rintro _ _ ⟨y, hy, rfl, rfl⟩
        exact ⟨⟨_, f3⟩, _, f3, lz, fin y hy _⟩
    · rintro σ M2 ⟨zs, x, y, rfl, hj4, hl, hnm, hf, p2, o2⟩
      rw [rng_len] at hl p2
      refine ⟨_, hf, dataQ_of ?_⟩
      refine h _ _ ⟨zs, rfl, hl, hnm⟩ ((p2.mono (by omega)).of (mdel_ne fa)) ?_
      intro b o nb e
      rw [mdel_ne (by rintro rfl; rw [nf] at e; cases e)]
      exact o2 b o nb e
end Ms
set_option Elab.async false
set_option linter.all false
set_option maxRecDepth 100000
namespace Ms
open PySem PySem.Spec PyProof.Rows L2 Dl
/-- a piece drawn -/
structure PieceX (x : PyData) : Prop where
  p : ∃ t n y, x = .tuple [.str t, n, y] ∧ isPiece t [n, y] = true
  f : Fn B1 250 1 x
  l : x.canLay0 = true
def spPc : SpD := fun ws M Q _ => ∃ (a : Addr) (n : Nat) (x : PyData), ws = [.ref a, .d x] ∧ Nms x ∧ n + 5 ≤ lots ∧ Pot a n M ∧ ∀ x M', PieceX x → Pot a (n + 5) M' → Oth a M M' → Q (.d x) M'
theorem spPc_len : ∀ ws M Q E, spPc ws M Q E → ws.length = 2 := by rintro _ _ _ _ ⟨a, n, x, rfl, _⟩; rfl
theorem nms_get {zs : List Str} (hl : zs.length = 4) (hz : ∀ z ∈ zs, isNameS z = true) {r : Int} (h0 : 0 ≤ r) (h1 : r < ((zs.map PyData.str).length : Int)) : ∃ z, atI (zs.map PyData.str) r = some (.str z) ∧ isNameS z = true := by
  obtain ⟨d, hd, hm⟩ := atI_mem h0 h1
  obtain ⟨z, hz', rfl⟩ := List.mem_map.mp hm
  exact ⟨z, hd, hz z hz'⟩
theorem b1_ofN {x : Int} (h0 : 0 ≤ x) (h1 : x ≤ 1000000) : x.natAbs < B1 := by
  have : (1000001 : Nat) ≤ B1 := by decide
  omega
theorem piece_is {t z : Str} {y : PyData} (hz : isNameS z = true) (ht : (inD (.str t) ihD = true ∧ ∃ u, y = .str u ∧ isNameS u = true) ∨ (inD (.str t) ftD = true ∧ ∃ n : Int, y = .int n ∧ 0 ≤ n ∧ n ≤ 1000000)) : PieceX (.tuple [.str t, .str z, y]) := by
  have t4 : PyData.strOk t = true ∧ t.length ≤ 4 := by
    rcases ht with ⟨h, _⟩ | ⟨h, _⟩
    · rcases ih_is h with rfl | rfl <;> exact ⟨by decide +kernel, by decide +kernel⟩
    · rcases ft_is h with rfl | rfl <;> exact ⟨by decide +kernel, by decide +kernel⟩
  have a1 : Fn B1 4 0 (.str t) := Fn.strW t4.1 t4.2
  have a2 : Fn B1 8 0 (.str z) := Fn.strW (name_sok hz) (name_len8 hz)
  rcases ht with ⟨h, u, rfl, hu⟩ | ⟨h, n, rfl, n0, n1⟩
  · have a3 : Fn B1 8 0 (.str u) := Fn.strW (name_sok hu) (name_len8 hu)
    refine ⟨⟨t, _, _, rfl, ?_⟩, (((FnA.one a1).app (FnA.one a2)).app (FnA.one a3)).tup.mono (Nat.le_refl _) (by decide) (Nat.le_refl _), ?_⟩
    · rw [piece2, ih_ks h, h]
      show (true && isNameS z && isNameS u) = true
      rw [hz, hu]
      rfl
    · simp only [PyData.canLay0, PyData.canLayAll0, Bool.and_eq_true]
      exact ⟨t4.1, name_sok hz, name_sok hu, trivial⟩
  · have a3 : Fn B1 198 0 (.int n) := Fn.int (b1_ofN n0 n1) (by decide) (Nat.le_refl _)
    refine ⟨⟨t, _, _, rfl, ?_⟩, (((FnA.one a1).app (FnA.one a2)).app (FnA.one a3)).tup.mono (Nat.le_refl _) (by decide) (Nat.le_refl _), ?_⟩
    · have nh : inD (.str t) ihD = false := by rcases ft_is h with rfl | rfl <;> decide +kernel
      rw [piece2, ft_ks h, nh]
      show (true && isNameS z && isWithin (.int n) 0 1000000) = true
      rw [hz]
      simp [isWithin, n0, n1]
    · simp only [PyData.canLay0, PyData.canLayAll0, Bool.and_eq_true]
      exact ⟨t4.1, name_sok hz, trivial, trivial⟩
theorem d_L_piece {g : Gc} (T : Txt g) : Df g 2 "_law_piece" ["_law_pot_here", "_law_names_here"] spPc := by
  refine df_of (k := 1) (i := i_L_piece) T.p_L_piece T.sy sc_L_piece ok_L_piece (fun _ _ _ _ _ _ us hl => match us, hl with | [_, _], _ => rfl) ?_ (fun Y ws M Q E F hE h => ?_)
  · exact spPc_len
  · obtain ⟨a, n, x, rfl, hx, hn, hp, h⟩ := h
    refine ⟨_, (ss_cons (s_par F 2 3 (a_cons (q_ix (q_var F 1) (q_call F 0 (d_L_take T) (a_cons (q_var F 0) (a_cons (q_callB F 1 c_len T.n_len (by decide +kernel) (a_cons (q_var F 1) a_nil)) a_nil)))) (a_cons (q_ix (q_var F 1) (q_call F 0 (d_L_take T) (a_cons (q_var F 0) (a_cons (q_callB F 1 c_len T.n_len (by decide +kernel) (a_cons (q_var F 1) a_nil)) a_nil)))) a_nil))) (ss_cons (s_set (q_call F 0 (d_L_take T) (a_cons (q_var F 0) (a_cons q_int a_nil))) (g_name F 4)) (ss_cons (s_if (t_cmp o_lt (q_var F 4) q_int) (ss_one (s_ret (q_tup (a_cons (q_ix (q_lst (a_cons q_str (a_cons q_str a_nil))) (q_var F 4)) (a_cons (q_var F 2) (a_cons (q_var F 3) a_nil)))))) ss_nil) (ss_one (s_ret (q_tup (a_cons (q_ix (q_lst (a_cons q_str (a_cons q_str a_nil))) (q_bin o_sub (q_var F 4) q_int)) (a_cons (q_var F 2) (a_cons (q_ix (q_lst (a_cons q_int (a_cons q_int (a_cons q_int (a_cons q_int (a_cons (q_bin o_pow q_int q_int) (a_cons (q_call F 0 (d_L_take T) (a_cons (q_var F 0) (a_cons (q_bin o_add (q_bin o_pow q_int q_int) q_int) a_nil))) a_nil))))))) (q_call F 0 (d_L_take T) (a_cons (q_var F 0) (a_cons q_int a_nil)))) a_nil))))))))), ?_⟩
    obtain ⟨zs, rfl, hl, hz⟩ := hx
    have l4 : (zs.map PyData.str).length = 4 := by rw [List.length_map, hl]
    have q1 : (1 : Int) ≤ ((zs.map PyData.str).length : Int) := by rw [l4]; decide
    have q2 : ((zs.map PyData.str).length : Int).natAbs < 2 ^ 2000 := by rw [l4]; decide
    refine ⟨a, n, _, rfl, q1, q2, by omega, hp, fun r M1 a1 b1 p1 o1 => ?_⟩
    obtain ⟨z, e1, nz⟩ := nms_get hl hz a1 b1
    refine ⟨_, e1, a, _, _, rfl, q1, q2, by omega, p1, fun r2 M2 a2 b2 p2 o2 => ?_⟩
    obtain ⟨u, e2, nu⟩ := nms_get hl hz a2 b2
    refine ⟨_, e2, ?_⟩
    refine ⟨a, _, 4, rfl, by decide, by decide, by omega, p2, fun way M3 a3 b3 p3 o3 => ?_⟩
    have o13 := (o1.trans o2).trans o3
    refine ifD (fun hw => ?_) (fun hw => ?_)
    · have hw : way < 2 := hw
      obtain ⟨d, hd, hm⟩ := atI_mem (xs := ihD) a3 hw
      obtain ⟨t, rfl, ht⟩ : ∃ t : Str, d = .str t ∧ inD (.str t) ihD = true := by
        simp only [ihD, List.mem_cons, List.not_mem_nil, or_false] at hm
        rcases hm with rfl | rfl <;> exact ⟨_, rfl, by decide +kernel⟩
      exact ⟨sm2, _, hd, sm3, h _ M3 (piece_is nz (.inl ⟨ht, u, rfl, nu⟩)) (p3.mono (by omega)) o13⟩
    · have hw : ¬ way < 2 := hw
      obtain ⟨d, hd, hm⟩ := atI_mem (xs := ftD) (show 0 ≤ way - 2 by omega) (show way - 2 < 2 by omega)
      obtain ⟨t, rfl, ht⟩ : ∃ t : Str, d = .str t ∧ inD (.str t) ftD = true := by
        simp only [ftD, List.mem_cons, List.not_mem_nil, or_false] at hm
        rcases hm with rfl | rfl <;> exact ⟨_, rfl, by decide +kernel⟩
      have p6 : powOk 10 6 := powOk_of (n := 4) (by decide) (by decide) (by decide)
      refine ⟨sm2, _, hd, p6, p6, a, _, 1000001, rfl, by decide, by decide, by omega, p3, fun v M4 a4 b4 p4 o4 => ⟨sm6, ?_⟩⟩
      refine ⟨a, _, 6, rfl, by decide, by decide, by omega, p4, fun r5 M5 a5 b5 p5 o5 => ?_⟩
      obtain ⟨y, hy, hm⟩ := atI_mem (xs := [PyData.int 0, .int 1, .int 2, .int 3, .int 1000000, .int v]) a5 b5
      refine ⟨y, hy, sm3, h _ M5 (piece_is nz (.inr ⟨ht, ?_⟩)) (p5.mono (by omega)) ((o13.trans o4).trans o5)⟩
      simp only [List.mem_cons, List.not_mem_nil, or_false] at hm
      rcases hm with rfl | rfl | rfl | rfl | rfl | rfl <;> exact ⟨_, rfl, by omega, by omega⟩
end Ms
set_option Elab.async false
set_option linter.all false
set_option maxRecDepth 100000
namespace Ms
open PySem PySem.Spec PyProof.Rows L2 Dl
def cD : Nat → Nat
  | 0 => 6
  | n + 1 => 2 + 6 * cD n
theorem cD6 : ∀ n, 6 ≤ cD n
  | 0 => Nat.le_refl _
  | n + 1 => by have := cD6 n; show 6 ≤ 2 + 6 * cD n; omega
/-- a condition drawn: so deep, of so many pieces -/
structure CondX (d u : Nat) (w : Bool) (x : PyData) : Prop where
  p : ∀ e, pcs (d + e) w x = some u
  f : Fn B1 (u * (250 + 30 * d)) (2 * d) x
  l : x.canLay0 = true
theorem cond_piece {x : PyData} (h : PieceX x) (d : Nat) (w : Bool) : CondX (d + 1) 1 w x := by
  obtain ⟨t, n, y, rfl, hp⟩ := h.p
  refine ⟨fun e => ?_, h.f.mono (Nat.le_refl _) (by omega) (by omega), h.l⟩
  rw [show d + 1 + e = (d + e) + 1 by omega]
  show pcsStep (pcs (d + e)) w t [n, y] = _
  unfold pcsStep
  rw [if_pos hp]
theorem sok_and {t : Str} (h : inD (.str t) joinD = true) : PyData.strOk t = true ∧ t.length ≤ 3 := by
  have := t_in (zs := ["and", "or"]) h
  simp only [List.mem_cons, List.not_mem_nil, or_false] at this
  rcases this with rfl | rfl <;> exact ⟨by decide +kernel, by decide +kernel⟩
theorem sok_any {t : Str} (h : inD (.str t) anyD = true) : PyData.strOk t = true ∧ t.length ≤ 5 := by
  have := t_in (zs := ["any", "every"]) h
  simp only [List.mem_cons, List.not_mem_nil, or_false] at this
  rcases this with rfl | rfl <;> exact ⟨by decide +kernel, by decide +kernel⟩
theorem cond_not {d u : Nat} {w : Bool} {x : PyData} (h : CondX d u w x) (hu : 1 ≤ u) : CondX (d + 1) u w (.tuple [.str "not", x]) := by
  have a : Fn B1 3 0 (.str "not") := Fn.strW (by decide +kernel) (by decide +kernel)
  refine ⟨fun e => ?_, ((FnA.one (a.mono (Nat.le_refl _) (Nat.le_refl _) (Nat.zero_le _))).app (FnA.one h.f)).tup.mono (Nat.le_refl _) ?_ (by omega), ?_⟩
  · rw [show d + 1 + e = (d + e) + 1 by omega]
    exact h.p e
  · rw [show u * (250 + 30 * (d + 1)) = u * (250 + 30 * d) + 30 * u by rw [show 250 + 30 * (d + 1) = (250 + 30 * d) + 30 by omega, Nat.mul_add]; omega]
    omega
  · simp only [PyData.canLay0, PyData.canLayAll0, Bool.and_eq_true]
    exact ⟨a.o, h.l, trivial⟩
theorem cond_any {d u : Nat} {x : PyData} {t z : Str} (ht : inD (.str t) anyD = true) (hz : isNameS z = true) (h : CondX d u true x) (hu : 1 ≤ u) : CondX (d + 1) u false (.tuple [.str t, .str z, x]) := by
  obtain ⟨t1, t2⟩ := sok_any ht
  have a : Fn B1 5 0 (.str t) := Fn.strW t1 t2
  have b : Fn B1 8 0 (.str z) := Fn.strW (name_sok hz) (name_len8 hz)
  refine ⟨fun e => ?_, (((FnA.one (a.mono (Nat.le_refl _) (Nat.le_refl _) (Nat.zero_le _))).app (FnA.one (b.mono (Nat.le_refl _) (Nat.le_refl _) (Nat.zero_le _)))).app (FnA.one h.f)).tup.mono (Nat.le_refl _) ?_ (by omega), ?_⟩
  · rw [show d + 1 + e = (d + e) + 1 by omega]
    have k : ksP.contains t = false := by
      have := t_in (zs := ["any", "every"]) ht
      simp only [List.mem_cons, List.not_mem_nil, or_false] at this
      rcases this with rfl | rfl <;> decide +kernel
    show pcsStep (pcs (d + e)) false t [.str z, x] = _
    unfold pcsStep
    rw [piece2, k]
    show (if (inD (.str t) anyD && isNameS z && !false) = true then pcs (d + e) true x else none) = _
    rw [ht, hz]
    exact h.p e
  · rw [show u * (250 + 30 * (d + 1)) = u * (250 + 30 * d) + 30 * u by rw [show 250 + 30 * (d + 1) = (250 + 30 * d) + 30 by omega, Nat.mul_add]; omega]
    omega
  · simp only [PyData.canLay0, PyData.canLayAll0, Bool.and_eq_true]
    exact ⟨t1, name_sok hz, h.l, trivial⟩
theorem parts_fn {d : Nat} {w : Bool} : ∀ (qs : List (PyData × Nat)), (∀ q ∈ qs, CondX d q.2 w q.1) → FnA B1 (qs.length + (qs.map (·.2)).sum * (250 + 30 * d)) (2 * d) (qs.map (·.1)) ∧ PyData.canLayAll0 (qs.map (·.1)) = true
  | [], _ => ⟨.nil, rfl⟩
  | q :: qs, h => by
    obtain ⟨h1, h2⟩ := parts_fn qs fun x hx => h x (List.mem_cons_of_mem _ hx)
    have hq := h q List.mem_cons_self
    refine ⟨((FnA.one hq.f).app h1).mono (Nat.le_refl _) ?_ (Nat.le_refl _), ?_⟩
    · simp only [List.map_cons, List.sum_cons, List.length_cons]
      rw [Nat.add_mul]
      omega
    · simp only [List.map_cons, PyData.canLayAll0, Bool.and_eq_true]
      exact ⟨hq.l, h2⟩
theorem cond_join {d : Nat} {w : Bool} {t : Str} (ht : inD (.str t) joinD = true) {qs : List (PyData × Nat)} (h2 : 2 ≤ qs.length) (h6 : qs.length ≤ 6) (h : ∀ q ∈ qs, CondX d q.2 w q.1 ∧ 1 ≤ q.2) : CondX (d + 1) (qs.map (·.2)).sum w (.tuple [.str t, .tuple (qs.map (·.1))]) := by
  obtain ⟨t1, t2⟩ := sok_and ht
  have a : Fn B1 3 0 (.str t) := Fn.strW t1 t2
  obtain ⟨f1, f2⟩ := parts_fn qs fun q hq => (h q hq).1
  have hs : ∀ l : List (PyData × Nat), (∀ q ∈ l, 1 ≤ q.2) → l.length ≤ (l.map (·.2)).sum := by
    intro l
    induction l with
    | nil => intro _; exact Nat.le_refl _
    | cons q l ih =>
      intro hh
      have := ih fun x hx => hh x (List.mem_cons_of_mem _ hx)
      have := hh q List.mem_cons_self
      simp only [List.map_cons, List.sum_cons, List.length_cons]
      omega
  have hs := hs qs fun q hq => (h q hq).2
  refine ⟨fun e => ?_, ((FnA.one (a.mono (Nat.le_refl _) (Nat.le_refl _) (Nat.zero_le _))).app (FnA.one f1.tup)).tup.mono (Nat.le_refl _) ?_ (by omega), ?_⟩
  · rw [show d + 1 + e = (d + e) + 1 by omega]
    have nn : PyData.eqv (.str t) (.str "not") = false := by
      have := t_in (zs := ["and", "or"]) ht
      simp only [List.mem_cons, List.not_mem_nil, or_false] at this
      rcases this with rfl | rfl <;> decide +kernel
    show (if PyData.eqv (.str t) (.str "not") = true then _ else if inD (.str t) joinD = true then sumP (pcs (d + e) w) (qs.map (·.1)) else none) = _
    rw [nn, ht]
    show sumP (pcs (d + e) w) (qs.map (·.1)) = _
    unfold sumP
    have al : ((qs.map (·.1)).all fun p => (pcs (d + e) w p).isSome) = true := by
      rw [List.all_map, List.all_eq_true]
      intro q hq
      show (pcs (d + e) w q.1).isSome = true
      rw [(h q hq).1.p e]
      rfl
    have sm : ∀ l : List (PyData × Nat), (∀ q ∈ l, CondX d q.2 w q.1) → ((l.map (·.1)).map fun p => (pcs (d + e) w p).getD 0).sum = (l.map (·.2)).sum := by
      intro l
      induction l with
      | nil => intro _; rfl
      | cons q l ih =>
        intro hh
        rw [List.map_cons, List.map_cons, List.map_cons, List.sum_cons, List.sum_cons, ih fun x hx => hh x (List.mem_cons_of_mem _ hx), (hh q List.mem_cons_self).p e]
        rfl
    rw [if_pos (by simp; omega), if_pos al, sm qs fun q hq => (h q hq).1]
  · rw [show (qs.map (·.2)).sum * (250 + 30 * (d + 1)) = (qs.map (·.2)).sum * (250 + 30 * d) + 30 * (qs.map (·.2)).sum by rw [show 250 + 30 * (d + 1) = (250 + 30 * d) + 30 by omega, Nat.mul_add]; omega]
    omega
  · simp only [PyData.canLay0, PyData.canLayAll0, Bool.and_eq_true]
    exact ⟨t1, f2, trivial⟩
def spDn : Nat → SpD
  | 0 => spNo
  | n + 1 => fun ws M Q _ => ∃ (a : Addr) (c : Nat) (x : PyData) (d : Nat) (m : Int) (w : Bool), ws = [.ref a, .d x, .d (.int d), .d (.int m), .d (.bool w)] ∧ Nms x ∧ 1 ≤ d ∧ d ≤ n ∧ 1 ≤ m ∧ m ≤ 30 ∧ c + cD n ≤ lots ∧ Pot a c M ∧
    ∀ (y : PyData) (u : Nat) M', CondX d u w y → 1 ≤ u → (u : Int) ≤ m → Pot a (c + cD n) M' → Oth a M M' → Q (.d (.tuple [y, .int u])) M'
theorem spDn_len {n} : ∀ ws M Q E, spDn n ws M Q E → ws.length = 5 := by
  cases n with
  | zero => intro _ _ _ _ h; exact h.elim
  | succ n => rintro _ _ _ _ ⟨a, c, x, d, m, w, rfl, _⟩; rfl
theorem d_L_drawn {g : Gc} (T : Txt g) : ∀ n : Nat, Df g (3 + n) "_law_drawn" ["_law_pot_here", "_law_names_here", "_law_deep", "_law_most", "_law_within"] (spDn n)
  | 0 => df_of (k := 2) (i := i_L_drawn) T.p_L_drawn T.sy sc_L_drawn ok_L_drawn (fun _ _ _ _ _ _ us hl => match us, hl with | [_, _, _, _, _], _ => rfl) (fun _ _ _ _ (h : False) => h.elim) (fun _ _ _ _ _ _ _ (h : False) => h.elim)
  | n + 1 => by
    refine df_of (k := 3 + n) (i := i_L_drawn) T.p_L_drawn T.sy sc_L_drawn ok_L_drawn (fun _ _ _ _ _ _ us hl => match us, hl with | [_, _, _, _, _], _ => rfl) ?_ (fun Y ws M Q E F hE h => ?_)
    · exact spDn_len
    · obtain ⟨a, c, x, d, m, w, rfl, hx, d1, dn, m1, m30, hc, hp, h⟩ := h
      refine ⟨_, (ss_cons (s_set (q_call F 0 (d_L_take T) (a_cons (q_var F 0) (a_cons q_int a_nil))) (g_name F 5)) (ss_cons (s_if (QW.pt (w_or (t_cmp o_lt (q_var F 2) q_int) (w_or1 (t_cmp o_lt (q_var F 5) q_int)))) (ss_one (s_ret (q_tup (a_cons (q_call F 4 (d_L_piece T) (a_cons (q_var F 0) (a_cons (q_var F 1) a_nil))) (a_cons q_int a_nil))))) ss_nil) (ss_cons (s_if (t_cmp (o_eq F) (q_var F 5) q_int) (ss_cons (s_set (q_call F 3 (d_L_drawn T n) (a_cons (q_var F 0) (a_cons (q_var F 1) (a_cons (q_bin o_sub (q_var F 2) q_int) (a_cons (q_var F 3) (a_cons (q_var F 4) a_nil)))))) (g_tup F (gs_cons (g_name F 6) (gs_cons (g_name F 7) gs_nil)))) (ss_one (s_ret (q_tup (a_cons (q_tup (a_cons q_str (a_cons (q_var F 6) a_nil))) (a_cons (q_var F 7) a_nil)))))) ss_nil) (ss_cons (s_if (QW.pt (w_and (t_cmp o_gt (q_var F 5) q_int) (w_and1 (t_not (t_val (q_var F 4)))))) (ss_cons (s_set (q_call F 3 (d_L_drawn T n) (a_cons (q_var F 0) (a_cons (q_var F 1) (a_cons (q_bin o_sub (q_var F 2) q_int) (a_cons (q_var F 3) (a_cons q_bool a_nil)))))) (g_tup F (gs_cons (g_name F 6) (gs_cons (g_name F 7) gs_nil)))) (ss_one (s_ret (q_tup (a_cons (q_tup (a_cons (q_ix (q_lst (a_cons q_str (a_cons q_str a_nil))) (q_bin o_sub (q_var F 5) q_int)) (a_cons (q_ix (q_var F 1) (q_call F 0 (d_L_take T) (a_cons (q_var F 0) (a_cons (q_callB F 6 c_len T.n_len (by decide +kernel) (a_cons (q_var F 1) a_nil)) a_nil)))) (a_cons (q_var F 6) a_nil)))) (a_cons (q_var F 7) a_nil)))))) ss_nil) (ss_cons (s_if (t_cmp o_lt (q_var F 3) q_int) (ss_one (s_ret (q_tup (a_cons (q_call F 4 (d_L_piece T) (a_cons (q_var F 0) (a_cons (q_var F 1) a_nil))) (a_cons q_int a_nil))))) ss_nil) (ss_cons (s_set (q_lstM a_nil) (g_name F 8)) (ss_cons (s_set q_int (g_name F 9)) (ss_cons (s_set (q_callB F 1 (c_min F) T.n_min (by decide +kernel) (a_cons (q_var F 3) (a_cons (q_bin o_add q_int (q_call F 0 (d_L_take T) (a_cons (q_var F 0) (a_cons q_int a_nil)))) a_nil))) (g_name F 10)) (ss_cons (s_for F (i_rng1 F 2 T.n_range (a_cons (q_var F 10) a_nil)) (g_name F 11) (ss_cons (s_set (q_call F 3 (d_L_drawn T n) (a_cons (q_var F 0) (a_cons (q_var F 1) (a_cons (q_bin o_sub (q_var F 2) q_int) (a_cons (q_bin o_sub (q_bin o_sub (q_var F 3) (q_var F 9)) (q_bin o_sub (q_bin o_sub (q_var F 10) q_int) (q_var F 11))) (a_cons (q_var F 4) a_nil)))))) (g_tup F (gs_cons (g_name F 6) (gs_cons (g_name F 7) gs_nil)))) (ss_cons (s_expr (q_met m_append (q_var F 8) (a_cons (q_var F 6) a_nil))) (ss_one (s_set (q_bin o_add (q_var F 9) (q_var F 7)) (g_name F 9)))))) (ss_one (s_ret (q_tup (a_cons (q_tup (a_cons (q_ix (q_lst (a_cons q_str (a_cons q_str a_nil))) (q_bin o_mod (q_var F 5) q_int)) (a_cons (q_callT F 5 c_tup T.n_tuple (by decide +kernel) (a_cons (q_var F 8) a_nil)) a_nil))) (a_cons (q_var F 9) a_nil)))))))))))))), ?_⟩
      have c6 := cD6 n
      refine ⟨a, c, 9, rfl, by decide, by decide, by omega, hp, fun way M1 w0 w9 p1 o1 => ?_⟩
      obtain ⟨d, rfl⟩ : ∃ d', d = d' + 1 := ⟨d - 1, by omega⟩
      refine ifD (fun _ => ⟨a, _, x, rfl, hx, by omega, p1, fun y M2 hy p2 o2 => ⟨sm2, h y 1 M2 (cond_piece hy d w) (Nat.le_refl _) m1 (p2.mono (by omega)) (o1.trans o2)⟩⟩) (fun hd => ?_)
      have hd : ¬ ((d + 1 : Nat) : Int) < 2 := hd
      refine ifD (fun _ => ⟨a, _, x, rfl, hx, by omega, p1, fun y M2 hy p2 o2 => ⟨sm2, h y 1 M2 (cond_piece hy d w) (Nat.le_refl _) m1 (p2.mono (by omega)) (o1.trans o2)⟩⟩) (fun hw => ?_)
      have hw : ¬ way < 2 := hw
      obtain ⟨n, rfl⟩ : ∃ n', n = n' + 1 := ⟨n - 1, by omega⟩
      have cn : cD (n + 1) = 2 + 6 * cD n := rfl
      have dd : ((d + 1 : Nat) : Int) - 1 = (d : Int) := by omega
      refine ⟨rfl, ?_⟩
      cases e2 : PyData.eqv (.int way) (.int 2) with
      | true =>
        refine bqc true (by first | exact e2 | rfl) ⟨a, _, x, d, m, w, ?_, hx, by omega, by omega, m1, m30, by omega, p1, fun y u M2 hy hu um p2 o2 => ⟨rfl, sm2, sm2, ?_⟩⟩
        · show [W.ref a, .d x, .d (.int (((d + 1 : Nat) : Int) - 1)), .d (.int m), .d (.bool w)] = _
          rw [dd]
        · exact h _ u M2 (cond_not hy hu) hu um (p2.mono (by omega)) (o1.trans o2)
      | false =>
        refine bqc false (by first | exact e2 | rfl) ?_
        rw [if_neg Bool.false_ne_true]
        dsimp only [tNxt]
        refine sq_cut (fun σ M' => σ = [some (.ref a), some (.d x), some (.d (.int ((d + 1 : Nat) : Int))), some (.d (.int m)), some (.d (.bool w)), some (.d (.int way)), none, none, none, none, none, none] ∧ M1 = M') (fun N hN => ?_) ?_
        · refine ifD (fun hw6 => ?_) (fun _ => hN _ _ ⟨rfl, rfl⟩)
          have hw6 : 6 < way := hw6
          cases w with
          | true => exact hN _ _ ⟨rfl, rfl⟩
          | false =>
            refine ⟨a, _, x, d, m, true, ?_, hx, by omega, by omega, m1, m30, by omega, p1, fun y u M2 hy hu um p2 o2 => ⟨rfl, sm2, ?_⟩⟩
            · show [W.ref a, .d x, .d (.int (((d + 1 : Nat) : Int) - 1)), .d (.int m), .d (.bool true)] = _
              rw [dd]
            obtain ⟨t', ht, hm⟩ := atI_mem (xs := anyD) (show 0 ≤ way - 7 by omega) (show way - 7 < 2 by omega)
            obtain ⟨t, rfl, ht'⟩ : ∃ t : Str, t' = .str t ∧ inD (.str t) anyD = true := by
              simp only [anyD, List.mem_cons, List.not_mem_nil, or_false] at hm
              rcases hm with rfl | rfl <;> exact ⟨_, rfl, by decide +kernel⟩
            obtain ⟨zs, rfl, hl, hz⟩ := hx
            have l4 : (zs.map PyData.str).length = 4 := by rw [List.length_map, hl]
            refine ⟨_, ht, a, _, _, rfl, by rw [l4]; decide, by rw [l4]; decide, by omega, p2, fun r M3 a3 b3 p3 o3 => ?_⟩
            obtain ⟨z, e1, nz⟩ := nms_get hl hz a3 b3
            exact ⟨_, e1, sm3, sm2, h _ u M3 (cond_any ht' nz hy hu) hu um (p3.mono (by omega)) ((o1.trans o2).trans o3)⟩
        rintro _ _ ⟨rfl, rfl⟩
        refine sq_cut (fun σ M' => σ = [some (.ref a), some (.d x), some (.d (.int ((d + 1 : Nat) : Int))), some (.d (.int m)), some (.d (.bool w)), some (.d (.int way)), none, none, none, none, none, none] ∧ M1 = M' ∧ 2 ≤ m) (fun N hN => ?_) ?_
        · refine ifD (fun _ => ⟨a, _, x, rfl, hx, by omega, p1, fun y M2 hy p2 o2 => ⟨sm2, h y 1 M2 (cond_piece hy d w) (Nat.le_refl _) m1 (p2.mono (by omega)) (o1.trans o2)⟩⟩) (fun hm => ?_)
          have hm : ¬ m < 2 := hm
          exact hN _ _ ⟨rfl, rfl, by omega⟩
        rintro _ _ ⟨rfl, rfl, m2⟩
        refine ⟨sm0, fun f nf => ?_⟩
        have fa : a ≠ f := p1.ne nf
        have p1' : Pot a (c + 1) (mset M1 f (.lst [])) := p1.of (mset_ne fa)
        have o1' : Oth a M (mset M1 f (.lst [])) := fun b o nb e => by
          have := o1 b o nb e
          rw [mset_ne (by rintro rfl; rw [nf] at this; cases this)]
          exact this
        refine ⟨a, _, 5, rfl, by decide, by decide, by omega, p1', fun r M2 a2 b2 p2 o2 => ?_⟩
        have f2 : M2 f = some (.lst []) := o2 f _ fa.symm mset_same
        obtain ⟨many, hmany⟩ : ∃ many : Int, many = min m (2 + r) := ⟨_, rfl⟩
        have lo2 : 2 ≤ many := by omega
        have hi6 : many ≤ 6 := by omega
        have him : many ≤ m := by omega
        dsimp only [gNam]
        refine ⟨⟨by omega, by omega⟩, fun j σ M' => ∃ (qs : List (PyData × Nat)) (i6 i7 i11 : Option W), σ = [some (.ref a), some (.d x), some (.d (.int ((d + 1 : Nat) : Int))), some (.d (.int m)), some (.d (.bool w)), some (.d (.int way)), i6, i7, some (.ref f), some (.d (.int (((qs.map (·.2)).sum : Nat) : Int))), some (.d (.int (min m (2 + r)))), i11] ∧ (j : Int) ≤ many ∧ qs.length = j ∧ (∀ q ∈ qs, CondX d q.2 w q.1 ∧ 1 ≤ q.2) ∧ (((qs.map (·.2)).sum : Nat) : Int) ≤ m - (many - j) ∧ M' f = some (.lst ((qs.map (·.1)).map W.d)) ∧ Pot a (c + 2 + cD n * j) M' ∧ Oth a M M', ⟨[], _, _, _, rfl, by omega, rfl, by simp, by simp; omega, f2, p2, o1'.trans o2⟩, fun _ _ _ _ => trivial, ?_, ?_⟩
        · rintro j v σ M3 hj ⟨qs, i6, i7, i11, rfl, hjm, hl, hq, hs, hf, p3, o3⟩
          obtain ⟨hj', rfl⟩ := rng_get hj
          have hj2 : (j : Int) < many := by omega
          have j6 : j < 6 := by omega
          have cj : cD n * j + cD n = cD n * (j + 1) := by rw [Nat.mul_add, Nat.mul_one]
          have c5 : cD n * (j + 1) ≤ cD n * 6 := Nat.mul_le_mul_left _ (by omega)
          refine ⟨a, _, x, d, m - (((qs.map (·.2)).sum : Nat) : Int) - (many - 1 - (0 + (j : Int))), w, ?_, hx, by omega, by omega, by omega, by omega, by omega, p3, fun y u M4 hy hu um p4 o4 => ⟨rfl, ?_⟩⟩
          · show [W.ref a, .d x, .d (.int (((d + 1 : Nat) : Int) - 1)), .d (.int (m - (((qs.map (·.2)).sum : Nat) : Int) - (min m (2 + r) - 1 - (0 + (j : Int))))), .d (.bool w)] = _
            rw [dd, hmany]
          have f4 : M4 f = some (.lst ((qs.map (·.1)).map W.d)) := o4 f _ fa.symm hf
          refine ⟨⟨_, f4⟩, _, f4, by rw [List.length_map, List.length_map, sizeLine_eq]; omega, ?_⟩
          have es : (((qs.map (·.2)).sum : Nat) : Int) + (u : Int) = ((((qs ++ [(y, u)]).map (·.2)).sum : Nat) : Int) := by simp
          refine ⟨qs ++ [(y, u)], some (.d y), some (.d (.int u)), some (.d (.int (0 + (j : Int)))), ?_, by omega, by simp [hl], ?_, by rw [← es]; omega, ?_, ?_, ?_⟩
          · rw [← es]
            rfl
          · intro q hq'
            rcases List.mem_append.mp hq' with h1 | h1
            · exact hq q h1
            · rw [List.mem_singleton.mp h1]; exact ⟨hy, hu⟩
          · rw [mset_same]; simp
          · exact (p4.mono (by omega)).of (mset_ne fa)
          · intro b o nb e
            have := o4 b o nb (o3 b o nb e)
            have nbf : b ≠ f := by
              rintro rfl
              have := o1 b o nb e
              rw [nf] at this
              cases this
            rw [mset_ne nbf]
            exact this
        · rintro σ M3 ⟨qs, i6, i7, i11, rfl, hjm, hl, hq, hs, hf, p3, o3⟩
          rw [rng_len] at hl hjm hs p3
          have hl' : (qs.length : Int) = many := by omega
          have r2 := fm_lo (x := way) (m := 2) (by decide)
          have r3 := fm_hi (x := way) (m := 2) (by decide)
          obtain ⟨t', ht, hm⟩ := atI_mem (xs := joinD) r2 r3
          obtain ⟨t, rfl, ht'⟩ : ∃ t : Str, t' = .str t ∧ inD (.str t) joinD = true := by
            simp only [joinD, List.mem_cons, List.not_mem_nil, or_false] at hm
            rcases hm with rfl | rfl <;> exact ⟨_, rfl, by decide +kernel⟩
          refine ⟨sm2, (show (2 : Int) ≠ 0 by decide), _, ht, _, hf, dataQ_of ⟨sm2, sm2, ?_⟩⟩
          have c5 : cD n * (min m (2 + r)).toNat ≤ cD n * 6 := Nat.mul_le_mul_left _ (by omega)
          have hs1 : ∀ l : List (PyData × Nat), (∀ q ∈ l, 1 ≤ q.2) → l.length ≤ (l.map (·.2)).sum := by
            intro l
            induction l with
            | nil => intro _; exact Nat.le_refl _
            | cons q l ih =>
              intro hh
              have := ih fun x hx => hh x (List.mem_cons_of_mem _ hx)
              have := hh q List.mem_cons_self
              simp only [List.map_cons, List.sum_cons, List.length_cons]
              omega
          have := hs1 qs fun q h' => (hq q h').2
          exact h _ _ M3 (cond_join ht' (by omega) (by omega) hq) (by omega) (by omega) (p3.mono (by omega)) o3
/-- a condition drawn -/
structure CdX (x : PyData) : Prop where
  c : isCond x = true
  f : Fn B1 13000 12 x
  l : x.canLay0 = true
def spPcC : SpD := fun ws M Q _ => ∃ (a : Addr) (n : Nat) (x : PyData), ws = [.ref a, .d x] ∧ Nms x ∧ n + 300000 ≤ lots ∧ Pot a n M ∧ ∀ x M', CdX x → Pot a (n + 300000) M' → Oth a M M' → Q (.d x) M'
theorem spPcC_len : ∀ ws M Q E, spPcC ws M Q E → ws.length = 2 := by rintro _ _ _ _ ⟨a, n, x, rfl, _⟩; rfl
theorem d_L_condition {g : Gc} (T : Txt g) : Df g 11 "_law_condition" ["_law_pot_here", "_law_names_here"] spPcC := by
  refine df_of (k := 10) (i := i_L_condition) T.p_L_condition T.sy sc_L_condition ok_L_condition (fun _ _ _ _ _ _ us hl => match us, hl with | [_, _], _ => rfl) ?_ (fun Y ws M Q E F hE h => ?_)
  · exact spPcC_len
  · obtain ⟨a, n, x, rfl, hx, hn, hp, h⟩ := h
    refine ⟨_, (ss_one (s_ret (q_ix (q_call F 0 (d_L_drawn T 7) (a_cons (q_var F 0) (a_cons (q_var F 1) (a_cons (q_ix (q_lst (a_cons q_int (a_cons q_int (a_cons q_int (a_cons q_int a_nil))))) (q_call F 1 (d_L_take T) (a_cons (q_var F 0) (a_cons q_int a_nil)))) (a_cons (q_ix (q_lst (a_cons q_int (a_cons q_int (a_cons q_int a_nil)))) (q_call F 1 (d_L_take T) (a_cons (q_var F 0) (a_cons q_int a_nil)))) (a_cons q_bool a_nil)))))) q_int))), ?_⟩
    have c6 : cD 6 = 298598 := by decide
    refine ⟨sm4, a, n, 4, rfl, by decide, by decide, by omega, hp, fun r1 M1 a1 b1 p1 o1 => ?_⟩
    obtain ⟨d', hd, hm⟩ := atI_mem (xs := [PyData.int 6, .int 6, .int 3, .int 1]) a1 b1
    obtain ⟨d, rfl, d1, d6⟩ : ∃ d : Nat, d' = .int d ∧ 1 ≤ d ∧ d ≤ 6 := by
      simp only [List.mem_cons, List.not_mem_nil, or_false] at hm
      rcases hm with rfl | rfl | rfl | rfl
      · exact ⟨6, rfl, by decide, by decide⟩
      · exact ⟨6, rfl, by decide, by decide⟩
      · exact ⟨3, rfl, by decide, by decide⟩
      · exact ⟨1, rfl, by decide, by decide⟩
    refine ⟨_, hd, sm3, a, _, 3, rfl, by decide, by decide, by omega, p1, fun r2 M2 a2 b2 p2 o2 => ?_⟩
    obtain ⟨m', hm', hmm⟩ := atI_mem (xs := [PyData.int 30, .int 9, .int 4]) a2 b2
    obtain ⟨m, rfl, m1, m30⟩ : ∃ m : Int, m' = .int m ∧ 1 ≤ m ∧ m ≤ 30 := by
      simp only [List.mem_cons, List.not_mem_nil, or_false] at hmm
      rcases hmm with rfl | rfl | rfl <;> exact ⟨_, rfl, by decide, by decide⟩
    refine ⟨_, hm', a, _, x, d, m, false, rfl, hx, d1, d6, m1, m30, (show n + 1 + 1 + cD 6 ≤ lots by omega), p2, fun y u M3 hy hu um p3 o3 => ⟨_, at0, ?_⟩⟩
    have p3 : Pot a (n + 1 + 1 + cD 6) M3 := p3
    refine h y M3 ⟨?_, hy.f.mono (Nat.le_refl _) ?_ (by omega), hy.l⟩ (p3.mono (by omega)) ((o1.trans o2).trans o3)
    · have := hy.p (6 - d)
      rw [show d + (6 - d) = 6 by omega] at this
      unfold isCond
      rw [this]
      show decide ((u : Int) ≤ 30) = true
      exact decide_eq_true (by omega)
    · have h1 : u ≤ 30 := by omega
      have : u * (250 + 30 * d) ≤ 30 * 430 := Nat.mul_le_mul h1 (by omega)
      omega
end Ms
set_option Elab.async false
set_option linter.all false
set_option maxRecDepth 100000
namespace Ms
open PySem PySem.Spec PyProof.Rows L2 Dl
/-- something bent, n deep -/
def spBent : Nat → SpD
  | 0 => spNo
  | n + 1 => fun ws M Q _ => ∃ (a : Addr) (c : Nat) (x : PyData) (deep : Int) (w d : Nat), ws = [.ref a, .d x, .d (.int deep)] ∧ 0 ≤ deep ∧ deep ≤ n ∧ Fn B1 w d x ∧ x.canLay0 = true ∧ w ≤ 30000 ∧ d ≤ 60 ∧ c + 5 * (n + 1) ≤ lots ∧ Pot a c M ∧
    ∀ y M', Fn B2 (2 * w + 400) (d + 3) y → Pot a (c + 5 * (n + 1)) M' → Oth a M M' → Q (.d y) M'
theorem spBent_len {n} : ∀ ws M Q E, spBent n ws M Q E → ws.length = 3 := by
  cases n with
  | zero => intro _ _ _ _ h; exact h.elim
  | succ n => rintro _ _ _ _ ⟨a, c, x, deep, w, d, rfl, _⟩; rfl
theorem d_L_bent {g : Gc} (T : Txt g) : ∀ n : Nat, Df g (3 + n) "_law_bent" ["_law_pot_here", "_law_thing", "_law_deep"] (spBent n)
  | 0 => df_of (k := 2) (i := i_L_bent) T.p_L_bent T.sy sc_L_bent ok_L_bent (fun _ _ _ _ _ _ us hl => match us, hl with | [_, _, _], _ => rfl) (fun _ _ _ _ (h : False) => h.elim) (fun _ _ _ _ _ _ _ (h : False) => h.elim)
  | n + 1 => by
    refine df_of (k := 3 + n) (i := i_L_bent) T.p_L_bent T.sy sc_L_bent ok_L_bent (fun _ _ _ _ _ _ us hl => match us, hl with | [_, _, _], _ => rfl) ?_ (fun Y ws M Q E F hE h => ?_)
    · exact spBent_len
    · obtain ⟨a, c, x, deep, w, d, rfl, d0, dn, fx, lay, hw, hd, hc, hp, h⟩ := h
      refine ⟨_, (ss_cons (s_set (q_call F 0 (d_L_take T) (a_cons (q_var F 0) (a_cons q_int a_nil))) (g_name F 3)) (ss_cons (s_set (q_call F 1 (d_L_odd T) (a_cons (q_var F 0) a_nil)) (g_name F 4)) (ss_cons (s_if (QW.pt (w_and (t_val (q_isi F 2 3 isk_str T.n_isinstance T.n_str (by decide +kernel) (q_var F 1))) (w_and1 (t_cmp o_lt (q_var F 3) q_int)))) (ss_cons (s_set (q_call F 0 (d_L_take T) (a_cons (q_var F 0) (a_cons (q_bin o_add (q_callB F 7 c_len T.n_len (by decide +kernel) (a_cons (q_var F 1) a_nil)) q_int) a_nil))) (g_name F 5)) (ss_cons (s_set (q_ix (q_lst (a_cons q_str (a_cons q_str (a_cons q_str (a_cons q_str (a_cons q_str (a_cons q_str a_nil))))))) (q_var F 3)) (g_name F 6)) (ss_one (s_ret (q_ix (q_lst (a_cons (q_bin o_add (q_bin o_add (q_sl (q_var F 1) o_no (o_sm (q_var F 5))) (q_var F 6)) (q_sl (q_var F 1) (o_sm (q_var F 5)) o_no)) (a_cons (q_bin o_add (q_sl (q_var F 1) o_no (o_sm (q_var F 5))) (q_sl (q_var F 1) (o_sm (q_bin o_add (q_var F 5) q_int)) o_no)) a_nil))) (q_call F 0 (d_L_take T) (a_cons (q_var F 0) (a_cons q_int a_nil)))))))) ss_nil) (ss_cons (s_if (t_not (t_val (q_isi F 2 4 isk_tuple T.n_isinstance T.n_tuple (by decide +kernel) (q_var F 1)))) (ss_cons (s_if (QW.pt (w_or (t_not (t_val (q_isi F 2 9 isk_int T.n_isinstance T.n_int (by decide +kernel) (q_var F 1)))) (w_or (t_val (q_isi F 2 6 isk_bool T.n_isinstance T.n_bool (by decide +kernel) (q_var F 1))) (w_or1 (t_cmp o_gt (q_var F 3) q_int))))) (ss_one (s_ret (q_var F 4))) ss_nil) (ss_one (s_ret (q_bin o_add (q_var F 1) (q_ix (q_lst (a_cons q_int (a_cons (q_neg q_int) (a_cons q_int (a_cons (q_neg q_int) (a_cons (q_bin o_pow q_int q_int) (a_cons (q_neg (q_bin o_pow q_int q_int)) a_nil))))))) (q_var F 3)))))) ss_nil) (ss_cons (s_set (q_call F 0 (d_L_take T) (a_cons (q_var F 0) (a_cons (q_callB F 5 (c_max F) T.n_max (by decide +kernel) (a_cons q_int (a_cons (q_callB F 7 c_len T.n_len (by decide +kernel) (a_cons (q_var F 1) a_nil)) a_nil))) a_nil))) (g_name F 5)) (ss_cons (s_if (QW.pt (w_and (t_cmp o_gt (q_var F 2) q_int) (w_and (t_cmp (o_ne F) (q_var F 1) (q_tup a_nil)) (w_and1 (t_cmp o_gt (q_call F 0 (d_L_take T) (a_cons (q_var F 0) (a_cons q_int a_nil))) q_int))))) (ss_one (s_ret (q_bin o_add (q_bin o_add (q_sl (q_var F 1) o_no (o_sm (q_var F 5))) (q_tup (a_cons (q_call F 10 (d_L_bent T n) (a_cons (q_var F 0) (a_cons (q_ix (q_var F 1) (q_var F 5)) (a_cons (q_bin o_sub (q_var F 2) q_int) a_nil)))) a_nil))) (q_sl (q_var F 1) (o_sm (q_bin o_add (q_var F 5) q_int)) o_no)))) ss_nil) (ss_cons (s_set (q_lst (a_cons (q_bin o_add (q_sl (q_var F 1) o_no (o_sm (q_var F 5))) (q_sl (q_var F 1) (o_sm (q_bin o_add (q_var F 5) q_int)) o_no)) (a_cons (q_bin o_add (q_sl (q_var F 1) o_no (o_sm (q_bin o_add (q_var F 5) q_int))) (q_sl (q_var F 1) (o_sm (q_var F 5)) o_no)) a_nil))) (g_name F 7)) (ss_cons (s_set (q_bin o_add (q_var F 7) (q_lst (a_cons (q_bin o_add (q_bin o_add (q_sl (q_var F 1) o_no (o_sm (q_var F 5))) (q_tup (a_cons (q_var F 4) a_nil))) (q_sl (q_var F 1) (o_sm (q_var F 5)) o_no)) (a_cons (q_rev (q_var F 1) (q_neg q_int)) (a_cons (q_callT F 8 c_lst T.n_list (by decide +kernel) (a_cons (q_var F 1) a_nil)) a_nil))))) (g_name F 7)) (ss_one (s_ret (q_ix (q_bin o_add (q_var F 7) (q_lst (a_cons (q_bin o_add (q_sl (q_var F 1) (o_sm (q_var F 5)) o_no) (q_sl (q_var F 1) o_no (o_sm (q_var F 5)))) (a_cons (q_bin o_add (q_var F 1) (q_tup (a_cons (q_var F 4) a_nil))) (a_cons (q_var F 4) a_nil))))) (q_var F 3)))))))))))), ?_⟩
      refine ⟨a, c, 8, rfl, by decide, by decide, by omega, hp, fun way M1 w0 w8 p1 o1 => ?_⟩
      refine ⟨a, _, rfl, by omega, p1, fun odd M2 ho p2 o2 => ?_⟩
      have ho2 : Fn B2 (2 * w + 400) (d + 3) odd := ho.mono (by decide) (by omega) (by omega)
      have o12 := o1.trans o2
      have oddR : Q (.d odd) M2 := h odd M2 ho2 (p2.mono (by omega)) o12
      cases x with
      | str z =>
        have hz : z.length ≤ w := fx.w
        have oz : PyData.strOk z = true := fx.o
        have c1 := cutS_length z
        refine ifD (fun hw6 => ?_) (fun _ => oddR)
        have hw6 : way < 6 := hw6
        refine ⟨small_of (by omega), a, _, z.length + 1, rfl, by omega, ?_, by omega, p2, fun at' M3 t0 t1 p3 o3 => ⟨sm6, ?_⟩⟩
        · have : (2 : Nat) ^ 2000 = 2 ^ 20 * 2 ^ 1980 := by rw [← Nat.pow_add]
          have h1 : 1 ≤ (2 : Nat) ^ 1980 := Nat.one_le_two_pow
          have h2 : (2 : Nat) ^ 20 * 1 ≤ 2 ^ 20 * 2 ^ 1980 := Nat.mul_le_mul_left _ h1
          rw [this]
          have e20 : (2 : Nat) ^ 20 = 1048576 := by decide
          rw [e20] at h2 ⊢
          omega
        obtain ⟨sg, hs, hm⟩ := atI_mem (xs := [PyData.str "a", .str "z", .str " ", .str "A", .str "1", .str "-"]) w0 (show way < 6 from hw6)
        obtain ⟨g', rfl, og, lg⟩ : ∃ g' : Str, sg = .str g' ∧ PyData.strOk g' = true ∧ g'.length ≤ 1 := by
          simp only [List.mem_cons, List.not_mem_nil, or_false] at hm
          rcases hm with rfl | rfl | rfl | rfl | rfl | rfl <;> exact ⟨_, rfl, by decide +kernel, by decide +kernel⟩
        refine ⟨_, hs, small_of (by omega), small_of ?_, small_of (by omega), small_of ?_, small_of (by omega), small_of (by omega), small_of ?_, sm2, ?_⟩
        · have := c1 none (some at')
          omega
        · have h1 := c1 none (some at')
          have h2 := c1 (some at') none
          rw [strLen_append]
          omega
        · have h1 := c1 none (some at')
          have h2 := c1 (some (at' + 1)) none
          omega
        refine ⟨a, _, 2, rfl, by decide, by decide, by omega, p3, fun r2 M4 a2 b2 p4 o4 => ?_⟩
        obtain ⟨y, hy, hmy⟩ := atI_mem (xs := [PyData.str (cutS z none (some at') ++ g' ++ cutS z (some at') none), .str (cutS z none (some at') ++ cutS z (some (at' + 1)) none)]) a2 b2
        refine ⟨y, hy, h y M4 ?_ (p4.mono (by omega)) ((o12.trans o3).trans o4)⟩
        have h1 := c1 none (some at')
        have h2 := c1 (some at') none
        have h3 := c1 (some (at' + 1)) none
        simp only [List.mem_cons, List.not_mem_nil, or_false] at hmy
        rcases hmy with rfl | rfl
        · exact Fn.strW (strOk_app (strOk_app (strOk_cut oz _ _) og) (strOk_cut oz _ _)) (by rw [strLen_append, strLen_append]; omega)
        · exact Fn.strW (strOk_app (strOk_cut oz _ _) (strOk_cut oz _ _)) (by rw [strLen_append]; omega)
      | tuple xs =>
        obtain ⟨d, rfl⟩ : ∃ d', d = d' + 1 := ⟨d - 1, by have := fx.pos; omega⟩
        have fa := fx.items
        have hl := fa.len
        refine ⟨a, _, max 1 (xs.length : Int), rfl, by omega, ?_, by omega, p2, fun at' M3 t0 t1 p3 o3 => ?_⟩
        · have : (2 : Nat) ^ 2000 = 2 ^ 20 * 2 ^ 1980 := by rw [← Nat.pow_add]
          have h1 : 1 ≤ (2 : Nat) ^ 1980 := Nat.one_le_two_pow
          have h2 : (2 : Nat) ^ 20 * 1 ≤ 2 ^ 20 * 2 ^ 1980 := Nat.mul_le_mul_left _ h1
          rw [this]
          have e20 : (2 : Nat) ^ 20 = 1048576 := by decide
          rw [e20] at h2 ⊢
          omega
        obtain ⟨k, rfl⟩ := Int.eq_ofNat_of_zero_le t0
        dsimp only [gNam]
        refine sq_cut (fun σ M' => σ = [some (.ref a), some (.d (.tuple xs)), some (.d (.int deep)), some (.d (.int way)), some (.d odd), some (.d (.int (k : Int))), none, none] ∧ Pot a (c + 4) M' ∧ Oth a M M') (fun N hN => ?_) ?_
        · refine ifD (fun hdp => ?_) (fun _ => hN _ _ ⟨rfl, p3.mono (by omega), o12.trans o3⟩)
          have hdp : 0 < deep := hdp
          refine ⟨sm0, ?_, ?_⟩
          · unfold neOk
            rw [lay]
            simp [PyData.canLay0, PyData.canLayAll0, PyData.depth, PyData.depthAll]
          by_cases hx : xs = []
          · subst hx
            exact bqc false (by simp [PyData.eqv, PyData.eqvAll]) (hN _ _ ⟨rfl, p3.mono (by omega), o12.trans o3⟩)
          refine bqc true (by cases xs with | nil => exact absurd rfl hx | cons _ _ => simp [PyData.eqv, PyData.eqvAll]) ?_
          refine ⟨a, _, 4, rfl, by decide, by decide, by omega, p3, fun r4 M4 a4 b4 p4 o4 => ?_⟩
          refine ifD (fun _ => ?_) (fun _ => hN _ _ ⟨rfl, p4.mono (by omega), (o12.trans o3).trans o4⟩)
          have hne : 1 ≤ xs.length := by cases xs with | nil => exact absurd rfl hx | cons _ _ => simp
          have hk : k < xs.length := by omega
          obtain ⟨m, rfl⟩ : ∃ m, n = m + 1 := ⟨n - 1, by omega⟩
          have s3 : xs = xs.take k ++ xs[k] :: xs.drop (k + 1) := by rw [← List.drop_eq_getElem_cons hk, List.take_append_drop]
          have mem : xs[k] ∈ xs := List.getElem_mem hk
          have fm := fa.mem mem
          have layk : xs[k].canLay0 = true := lay_mem lay mem
          have wk := fm.w
          refine ⟨_, atI_nat (List.getElem?_eq_getElem hk), a, _, xs[k], deep - 1, xs[k].weight, d, rfl, by omega, by omega, ⟨fm.o, Nat.le_refl _, fm.d⟩, layk, by omega, by omega, by omega, p4, fun y M5 fy p5 o5 => ?_⟩
          have l1 := (fa.cut none (some (k : Int))).len
          have l2 := (fa.cut (some ((k : Int) + 1)) none).len
          refine ⟨sm1, small_of (by show _ + 1 ≤ _; omega), small_of (by rw [List.length_append]; show (_ + 1) + _ ≤ _; omega), ?_⟩
          refine h _ M5 ?_ (p5.mono (by omega)) (((o12.trans o3).trans o4).trans o5)
          have bb : B1 ≤ B2 := by decide
          have fw := fa.w
          rw [s3, wAll_app] at fw
          simp only [PyData.weightAll] at fw
          have e1 : cut xs none (some (k : Int)) = xs.take k := cut_to _ _
          have e2 : cut xs (some ((k : Int) + 1)) none = xs.drop (k + 1) := cut_from xs (k + 1)
          have q1 : FnA B2 (PyData.weightAll (xs.take k)) (d + 3) (xs.take k) := ⟨okLA_mono bb _ (fa.take k).o, Nat.le_refl _, Nat.le_trans (fa.take k).d (by omega)⟩
          have q2 : FnA B2 (PyData.weightAll (xs.drop (k + 1))) (d + 3) (xs.drop (k + 1)) := ⟨okLA_mono bb _ (fa.drop _).o, Nat.le_refl _, Nat.le_trans (fa.drop _).d (by omega)⟩
          have z := (q1.app (FnA.one fy)).app q2
          rw [← e1, ← e2] at z
          exact z.tup.mono (Nat.le_refl _) (by rw [e1, e2]; omega) (by omega)
        · rintro _ M4 ⟨rfl, p4, o4⟩
          have ct : ∀ lo hi, (cut xs lo hi).length ≤ 30000 := fun lo hi => by
            have := (fa.cut lo hi).len
            omega
          have e1 : ∀ lo hi lo' hi', small ((cut xs lo hi).length + (cut xs lo' hi').length) := fun lo hi lo' hi' => small_of (by have := ct lo hi; have := ct lo' hi'; omega)
          have e2 : ∀ lo hi, small ((cut xs lo hi).length + 1) := fun lo hi => small_of (by have := ct lo hi; omega)
          have e3 : ∀ lo hi lo' hi', small ((cut xs lo hi ++ [odd]).length + (cut xs lo' hi').length) := fun lo hi lo' hi' => small_of (by rw [List.length_append]; have := ct lo hi; have := ct lo' hi'; simp; omega)
          refine ⟨e1 _ _ _ _, e1 _ _ _ _, sm2, sm1, e2 _ _, e3 _ _ _ _, rfl, sm3, sm5, e1 _ _ _ _, sm1, small_of (by simp; omega), sm3, sm8, ?_⟩
          obtain ⟨y, hy, hm⟩ := atI_mem (xs := [PyData.tuple (cut xs none (some (k : Int)) ++ cut xs (some ((k : Int) + 1)) none), .tuple (cut xs none (some ((k : Int) + 1)) ++ cut xs (some (k : Int)) none), .tuple (cut xs none (some (k : Int)) ++ [odd] ++ cut xs (some (k : Int)) none), .tuple xs.reverse, .list xs,
            .tuple (cut xs (some (k : Int)) none ++ cut xs none (some (k : Int))), .tuple (xs ++ [odd]), odd]) w0 w8
          refine ⟨y, hy, h y M4 ?_ (p4.mono (by omega)) o4⟩
          have od : Fn B1 200 (d + 2) odd := ho.mono (Nat.le_refl _) (Nat.le_refl _) (by omega)
          have fb := fa.mono (Nat.le_refl B1) (Nat.le_refl w) (show d ≤ d + 2 by omega)
          have bb : B1 ≤ B2 := by decide
          simp only [List.mem_cons, List.not_mem_nil, or_false] at hm
          rcases hm with rfl | rfl | rfl | rfl | rfl | rfl | rfl | rfl
          · exact ((fb.cut _ _).app (fb.cut _ _)).tup.mono bb (by omega) (by omega)
          · exact ((fb.cut _ _).app (fb.cut _ _)).tup.mono bb (by omega) (by omega)
          · have z : PyData.weightAll (cut xs none (some (k : Int))) + PyData.weightAll (cut xs (some (k : Int)) none) ≤ w := by
              rw [cut_to, cut_from, ← wAll_app, List.take_append_drop]
              exact fa.w
            have q1 : FnA B1 (PyData.weightAll (cut xs none (some (k : Int)))) (d + 2) (cut xs none (some (k : Int))) := ⟨(fb.cut _ _).o, Nat.le_refl _, (fb.cut _ _).d⟩
            have q2 : FnA B1 (PyData.weightAll (cut xs (some (k : Int)) none)) (d + 2) (cut xs (some (k : Int)) none) := ⟨(fb.cut _ _).o, Nat.le_refl _, (fb.cut _ _).d⟩
            exact ((q1.app (FnA.one od)).app q2).tup.mono bb (by omega) (by omega)
          · exact fb.rev.tup.mono bb (by omega) (by omega)
          · exact fb.lst.mono bb (by omega) (by omega)
          · exact ((fb.cut _ _).app (fb.cut _ _)).tup.mono bb (by omega) (by omega)
          · exact (fb.app (FnA.one od)).tup.mono bb (by omega) (by omega)
          · exact ho2
      | int i =>
        have hi : i.natAbs < B1 := of_decide_eq_true fx.o
        refine ifD (fun _ => oddR) (fun hw => ?_)
        have hw : ¬ 5 < way := hw
        have p6 : powOk 10 6 := powOk_of (n := 4) (by decide) (by decide) (by decide)
        refine ⟨p6, p6, sm6, ?_⟩
        obtain ⟨v, hv, hm⟩ := atI_mem (xs := [PyData.int 1, .int (-1), .int 2, .int (-2), .int 1000000, .int (-1000000)]) w0 (show way < 6 by omega)
        obtain ⟨v', rfl, lv⟩ : ∃ v' : Int, v = .int v' ∧ v'.natAbs ≤ 1000000 := by
          simp only [List.mem_cons, List.not_mem_nil, or_false] at hm
          rcases hm with rfl | rfl | rfl | rfl | rfl | rfl <;> exact ⟨_, rfl, by decide⟩
        refine ⟨_, hv, h _ M2 (Fn.int ?_ (by decide) (by omega)) (p2.mono (by omega)) o12⟩
        have e1 : (2 : Nat) ^ 140 = 1393796574908163946345982392040522594123776 := by decide
        have e2 : (2 : Nat) ^ 141 = 2787593149816327892691964784081045188247552 := by decide
        unfold B1 at hi
        unfold B2
        rw [e1] at hi
        rw [e2]
        omega
      | bool b => exact oddR
      | none => exact oddR
      | list _ => exact oddR
      | dict _ => exact oddR
structure ThX (x : PyData) : Prop where
  f : Fn B2 30000 16 x
def Thx (x : PyData) : Prop := ∃ ds, x = .list ds ∧ ds.length ≤ 100 ∧ ∀ d ∈ ds, Fn B2 30000 16 d
theorem so_not : PyData.strOk "not" = true := by decide +kernel
theorem so_and : PyData.strOk "and" = true := by decide +kernel
theorem so_or : PyData.strOk "or" = true := by decide +kernel
theorem so_any : PyData.strOk "any" = true := by decide +kernel
theorem so_every : PyData.strOk "every" = true := by decide +kernel
theorem so_r : PyData.strOk "r" = true := by decide +kernel
theorem so_s : PyData.strOk "s" = true := by decide +kernel
theorem so_is : PyData.strOk "is" = true := by decide +kernel
theorem sl_not : ("not" : Str).length = 3 := by decide +kernel
theorem sl_and : ("and" : Str).length = 3 := by decide +kernel
theorem sl_or : ("or" : Str).length = 2 := by decide +kernel
theorem sl_any : ("any" : Str).length = 3 := by decide +kernel
theorem sl_every : ("every" : Str).length = 5 := by decide +kernel
theorem sl_r : ("r" : Str).length = 1 := by decide +kernel
theorem sl_s : ("s" : Str).length = 1 := by decide +kernel
theorem sl_is : ("is" : Str).length = 2 := by decide +kernel
theorem strSize (z : Str) : z.cps.size = z.length := rfl
def spWr : SpD := fun ws M Q _ => ∃ (a : Addr) (n : Nat) (x : PyData), ws = [.ref a, .d x] ∧ PieceX x ∧ n + 20 ≤ lots ∧ Pot a n M ∧ ∀ x M', Thx x → Pot a (n + 20) M' → Oth a M M' → Q (.d x) M'
theorem spWr_len : ∀ ws M Q E, spWr ws M Q E → ws.length = 2 := by rintro _ _ _ _ ⟨a, n, x, rfl, _⟩; rfl
theorem d_L_wrapped {g : Gc} (T : Txt g) : Df g 2 "_law_wrapped" ["_law_pot_here", "_law_piece_here"] spWr := by
  refine df_of (k := 1) (i := i_L_wrapped) T.p_L_wrapped T.sy sc_L_wrapped ok_L_wrapped (fun _ _ _ _ _ _ us hl => match us, hl with | [_, _], _ => rfl) ?_ (fun Y ws M Q E F hE h => ?_)
  · exact spWr_len
  · obtain ⟨a, n, p, rfl, hx, hn, hp, h⟩ := h
    refine ⟨_, (ss_cons (s_set (q_lstM a_nil) (g_name F 2)) (ss_cons (s_set (q_var F 1) (g_name F 3)) (ss_cons (s_set (q_call F 0 (d_L_take T) (a_cons (q_var F 0) (a_cons q_int a_nil))) (g_name F 4)) (ss_cons (s_for F (i_rng1 F 1 T.n_range (a_cons q_int a_nil)) (g_name F 5) (ss_cons (s_set (q_call F 0 (d_L_take T) (a_cons (q_var F 0) (a_cons q_int a_nil))) (g_name F 6)) (ss_cons (s_if (t_cmp (o_eq F) (q_var F 5) (q_var F 4)) (ss_one (s_set (q_tup (a_cons (q_ix (q_lst (a_cons q_str (a_cons q_str a_nil))) (q_call F 0 (d_L_take T) (a_cons (q_var F 0) (a_cons q_int a_nil)))) (a_cons q_str (a_cons (q_var F 3) a_nil)))) (g_name F 3))) (ss_one (s_set (q_ix (q_lst (a_cons (q_tup (a_cons q_str (a_cons (q_var F 3) a_nil))) (a_cons (q_tup (a_cons q_str (a_cons (q_tup (a_cons (q_var F 3) (a_cons (q_var F 1) a_nil))) a_nil))) (a_cons (q_tup (a_cons q_str (a_cons (q_tup (a_cons (q_var F 1) (a_cons (q_var F 3) a_nil))) a_nil))) a_nil)))) (q_var F 6)) (g_name F 3)))) (ss_one (s_expr (q_met m_append (q_var F 2) (a_cons (q_var F 3) a_nil))))))) (ss_one (s_ret (q_frz (q_var F 2)))))))), ?_⟩
    have bb : B1 ≤ B2 := by decide
    have o_p : okL B2 p = true := okL_mono bb p hx.f.o
    have w_p := hx.f.w
    have d_p := hx.f.d
    refine ⟨sm0, fun f nf => ?_⟩
    have fa : a ≠ f := hp.ne nf
    have hp0 : Pot a n (mset M f (.lst [])) := hp.of (mset_ne fa)
    have o0 : Oth a M (mset M f (.lst [])) := fun b o nb e => by rw [mset_ne (by rintro rfl; rw [nf] at e; cases e)]; exact e
    refine ⟨a, n, 6, rfl, by decide, by decide, by omega, hp0, fun once M1 a1 b1 p1 o1 => ?_⟩
    have f1 : M1 f = some (.lst []) := o1 f _ fa.symm mset_same
    refine ⟨⟨by omega, by omega⟩, fun j σ M' => ∃ (x : PyData) (ds : List PyData) (i5 i6 : Option W), σ = [some (.ref a), some (.d p), some (.ref f), some (.d x), some (.d (.int once)), i5, i6] ∧ j ≤ 6 ∧ Fn B2 (300 + 300 * j) (1 + 2 * j) x ∧ ds.length = j ∧ (∀ d ∈ ds, Fn B2 30000 16 d) ∧ M' f = some (.lst (ds.map W.d)) ∧ Pot a (n + 1 + 2 * j) M' ∧ Oth a M M', ⟨p, [], _, _, rfl, by omega, hx.f.mono bb (by omega) (by omega), rfl, by simp, f1, p1, o0.trans o1⟩, fun _ _ _ _ => trivial, ?_, ?_⟩
    · rintro j w σ M2 hj ⟨x, ds, i5, i6, rfl, hj6, fx, hl, hds, hf, p2, o2⟩
      obtain ⟨hj', rfl⟩ := rng_get hj
      have j6 : j < 6 := by omega
      have o_x := fx.o
      have w_x := fx.w
      have d_x := fx.d
      refine ⟨a, _, 3, rfl, by decide, by decide, by omega, p2, fun way M3 a3 b3 p3 o3 => ?_⟩
      dsimp only [gNam]
      refine sq_cut (fun σ M' => ∃ y, Fn B2 (300 + 300 * (j + 1)) (1 + 2 * (j + 1)) y ∧ σ = [some (.ref a), some (.d p), some (.ref f), some (.d y), some (.d (.int once)), some (.d (.int (0 + (j : Int)))), some (.d (.int way))] ∧ Pot a (n + 1 + 2 * (j + 1)) M' ∧ Oth a M3 M') (fun N hN => ?_) ?_
      · refine ⟨rfl, bq (ifB (fun _ => ?_) (fun _ => ?_))⟩
        · refine ⟨sm2, a, _, 2, rfl, by decide, by decide, by omega, p3, fun r4 M4 a4 b4 p4 o4 => ?_⟩
          obtain ⟨t', ht, hm⟩ := atI_mem (xs := anyD) a4 b4
          obtain ⟨t, rfl, ht'⟩ : ∃ t : Str, t' = .str t ∧ inD (.str t) anyD = true := by
            simp only [anyD, List.mem_cons, List.not_mem_nil, or_false] at hm
            rcases hm with rfl | rfl <;> exact ⟨_, rfl, by decide +kernel⟩
          obtain ⟨t1, t2⟩ := sok_any ht'
          refine ⟨_, ht, sm3, hN _ _ ⟨_, ⟨?_, ?_, ?_⟩, rfl, p4.mono (by omega), o4⟩⟩
          · simp only [okL, okLA, Bool.and_eq_true]
            exact ⟨t1, so_r, o_x, trivial⟩
          · simp only [PyData.weight, PyData.weightAll, strSize, sl_r]; omega
          · simp only [PyData.depth, PyData.depthAll]; omega
        · refine ⟨sm2, sm2, sm2, sm2, sm2, sm3, ?_⟩
          obtain ⟨y, hy, hm⟩ := atI_mem (xs := [PyData.tuple [.str "not", x], .tuple [.str "and", .tuple [x, p]], .tuple [.str "or", .tuple [p, x]]]) a3 b3
          refine ⟨y, hy, hN _ _ ⟨y, ?_, rfl, p3.mono (by omega), Oth.refl _ _⟩⟩
          simp only [List.mem_cons, List.not_mem_nil, or_false] at hm
          rcases hm with rfl | rfl | rfl
          all_goals
            refine ⟨?_, ?_, ?_⟩
            · simp only [okL, okLA, Bool.and_eq_true, so_not, so_and, so_or, o_x, o_p, and_self]
            · simp only [PyData.weight, PyData.weightAll, strSize, sl_not, sl_and, sl_or]; omega
            · simp only [PyData.depth, PyData.depthAll]; omega
      · rintro _ M4 ⟨y, fy, rfl, p4, o4⟩
        have f4 : M4 f = some (.lst (ds.map W.d)) := o4 f _ fa.symm (o3 f _ fa.symm hf)
        refine ⟨⟨_, f4⟩, _, f4, by rw [List.length_map, sizeLine_eq]; omega, y, ds ++ [y], _, _, rfl, by omega, fy, by simp [hl], ?_, ?_, ?_, ?_⟩
        · intro d hd
          rcases List.mem_append.mp hd with h1 | h1
          · exact hds d h1
          · rw [List.mem_singleton.mp h1]; exact fy.mono (Nat.le_refl _) (by omega) (by omega)
        · rw [mset_same]; simp
        · exact p4.of (mset_ne fa)
        · intro b o nb e
          have h0 := o2 b o nb e
          have h1 := o4 b o nb (o3 b o nb h0)
          have nbf : b ≠ f := by
            rintro rfl
            have z := o0 b
            rw [nf] at e
            cases e
          rw [mset_ne nbf]
          exact h1
    · rintro σ M2 ⟨x, ds, i5, i6, rfl, hj6, fx, hl, hds, hf, p2, o2⟩
      rw [rng_len] at hl p2
      refine ⟨_, hf, dataQ_of ?_⟩
      refine h _ _ ⟨ds, rfl, by omega, hds⟩ ((p2.mono (by omega)).of (mdel_ne fa)) ?_
      intro b o nb e
      rw [mdel_ne (by rintro rfl; rw [nf] at e; cases e)]
      exact o2 b o nb e
theorem th_fn5 {l : List PyData} (h : l.all (fun x => okL B2 x && decide (x.weight ≤ 30000) && decide (x.depth ≤ 16)) = true) : ∀ x ∈ l, Fn B2 30000 16 x := by
  intro x hx
  have := List.all_eq_true.mp h x hx
  simp only [Bool.and_eq_true, decide_eq_true_eq] at this
  exact ⟨this.1.1, this.1.2, this.2⟩
theorem rep_eq (n : Nat) (p : PyData) : (List.replicate n [p]).flatten = List.replicate n p := by
  induction n with
  | zero => rfl
  | succ n ih => rw [List.replicate_succ, List.flatten_cons, ih, List.replicate_succ]; rfl
theorem fnA_rep {B w d : Nat} {p : PyData} (h : Fn B w d p) : ∀ n : Nat, FnA B (n * (w + 1)) d (List.replicate n p)
  | 0 => .nil
  | n + 1 => by
    rw [List.replicate_succ]
    exact ((FnA.one h).app (fnA_rep h n)).mono (Nat.le_refl _) (by rw [Nat.add_mul]; omega) (Nat.le_refl _)
theorem fn_rep {B w d : Nat} {p : PyData} {t : Str} (ht : t = "and" ∨ t = "or") (h : Fn B w d p) (n : Nat) : Fn B (n * (w + 1) + 5) (d + 2) (.tuple [.str t, .tuple (List.replicate n [p]).flatten]) := by
  rw [rep_eq]
  have a : Fn B 3 (d + 1) (.str t) := by rcases ht with rfl | rfl <;> exact Fn.strW (by decide +kernel) (by decide +kernel)
  exact ((FnA.one a).app (FnA.one (fnA_rep h n).tup)).tup.mono (Nat.le_refl _) (by omega) (by omega)
def spFx : SpD := fun ws M Q _ => ∃ x, ws = [.d x] ∧ PieceX x ∧ ∀ y, Thx y → Q (.d y) M
theorem spFx_len : ∀ ws M Q E, spFx ws M Q E → ws.length = 1 := by rintro _ _ _ _ ⟨x, rfl, _⟩; rfl
theorem d_L_fixed {g : Gc} (T : Txt g) : Df g 1 "_law_fixed" ["_law_piece_here"] spFx := by
  refine df_of (k := 0) (i := i_L_fixed) T.p_L_fixed T.sy sc_L_fixed ok_L_fixed (fun _ _ _ _ _ _ us hl => match us, hl with | [_], _ => rfl) ?_ (fun Y ws M Q E F hE h => ?_)
  · exact spFx_len
  · obtain ⟨p, rfl, hx, h⟩ := h
    refine ⟨_, (ss_cons (s_set (q_var F 0) (g_name F 1)) (ss_cons (s_for F (i_rng1 F 0 T.n_range (a_cons q_int a_nil)) (g_name F 2) (ss_one (s_set (q_tup (a_cons q_str (a_cons (q_var F 1) a_nil))) (g_name F 1)))) (ss_cons (s_set (q_tup (a_cons q_str (a_cons (q_bin o_rep (q_tup (a_cons (q_var F 0) a_nil)) q_int) a_nil))) (g_name F 3)) (ss_cons (s_set (q_tup (a_cons q_str (a_cons (q_bin o_rep (q_tup (a_cons (q_var F 3) a_nil)) q_int) a_nil))) (g_name F 4)) (ss_cons (s_set (q_lst (a_cons (q_var F 1) (a_cons (q_tup (a_cons q_str (a_cons (q_var F 1) a_nil))) (a_cons (q_var F 4) (a_cons (q_tup (a_cons q_str (a_cons (q_tup (a_cons (q_var F 4) (a_cons (q_var F 0) a_nil))) a_nil))) (a_cons (q_tup (a_cons q_str (a_cons (q_tup (a_cons (q_tup (a_cons q_str (a_cons (q_tup (a_cons (q_var F 3) (a_cons (q_var F 3) a_nil))) a_nil))) (a_cons (q_tup (a_cons q_str (a_cons (q_tup (a_cons (q_var F 3) (a_cons (q_var F 3) (a_cons (q_var F 3) a_nil)))) a_nil))) a_nil))) a_nil))) a_nil)))))) (g_name F 5)) (ss_cons (s_set (q_bin o_add (q_var F 5) (q_lst (a_cons (q_tup (a_cons q_str (a_cons (q_tup (a_cons (q_var F 0) a_nil)) a_nil))) (a_cons (q_tup (a_cons q_str (a_cons (q_bin o_rep (q_tup (a_cons (q_var F 0) a_nil)) q_int) a_nil))) (a_cons (q_tup (a_cons q_str (a_cons (q_tup a_nil) a_nil))) (a_cons (q_tup (a_cons q_str (a_cons (q_lst (a_cons (q_var F 0) (a_cons (q_var F 0) a_nil))) a_nil))) (a_cons (q_tup (a_cons q_str (a_cons (q_var F 0) (a_cons (q_var F 0) a_nil)))) a_nil))))))) (g_name F 5)) (ss_cons (s_set (q_bin o_add (q_var F 5) (q_lst (a_cons (q_tup (a_cons q_str (a_cons q_str (a_cons (q_var F 4) a_nil)))) (a_cons (q_tup (a_cons q_str (a_cons q_str (a_cons (q_tup (a_cons q_str (a_cons (q_tup (a_cons (q_var F 4) (a_cons (q_var F 0) a_nil))) a_nil))) a_nil)))) (a_cons (q_tup (a_cons q_str (a_cons (q_tup (a_cons q_str (a_cons (q_tup (a_cons (q_var F 4) (a_cons (q_var F 0) a_nil))) a_nil))) a_nil))) a_nil))))) (g_name F 5)) (ss_cons (s_set (q_bin o_add (q_var F 5) (q_lst (a_cons (q_tup (a_cons q_str (a_cons q_str (a_cons (q_tup (a_cons q_str (a_cons q_str (a_cons (q_var F 0) a_nil)))) a_nil)))) (a_cons (q_tup (a_cons q_str (a_cons q_str (a_cons (q_tup (a_cons q_str (a_cons (q_tup (a_cons q_str (a_cons (q_tup (a_cons (q_var F 0) (a_cons (q_tup (a_cons q_str (a_cons q_str (a_cons (q_var F 0) a_nil)))) a_nil))) a_nil))) a_nil))) a_nil)))) a_nil)))) (g_name F 5)) (ss_cons (s_set (q_bin o_add (q_var F 5) (q_lst (a_cons (q_tup (a_cons q_str (a_cons (q_tup (a_cons q_str (a_cons q_str (a_cons (q_var F 0) a_nil)))) a_nil))) (a_cons (q_tup (a_cons q_str (a_cons q_str (a_cons (q_var F 0) a_nil)))) (a_cons (q_tup (a_cons q_str (a_cons q_str a_nil))) (a_cons (q_tup (a_cons q_str a_nil)) (a_cons (q_tup (a_cons q_str (a_cons (q_var F 0) (a_cons (q_var F 0) a_nil)))) a_nil))))))) (g_name F 5)) (ss_cons (s_set (q_bin o_add (q_var F 5) (q_lst (a_cons (q_tup (a_cons q_str (a_cons (q_tup (a_cons (q_tup (a_cons q_str (a_cons q_str (a_cons (q_var F 0) a_nil)))) (a_cons (q_tup (a_cons q_str (a_cons q_str (a_cons (q_var F 0) a_nil)))) a_nil))) a_nil))) (a_cons (q_tup (a_cons q_str (a_cons q_str (a_cons q_str a_nil)))) (a_cons (q_tup (a_cons q_str (a_cons q_str (a_cons q_str a_nil)))) a_nil))))) (g_name F 5)) (ss_cons (s_set (q_bin o_add (q_var F 5) (q_lst (a_cons (q_tup (a_cons q_str (a_cons q_str a_nil))) (a_cons (q_tup (a_cons q_str (a_cons q_str (a_cons q_int a_nil)))) (a_cons (q_tup (a_cons q_str (a_cons q_str (a_cons q_str a_nil)))) (a_cons (q_tup (a_cons q_str (a_cons q_str (a_cons q_bool a_nil)))) (a_cons (q_tup (a_cons q_str (a_cons q_str (a_cons (q_bin o_add (q_bin o_pow q_int q_int) q_int) a_nil)))) a_nil))))))) (g_name F 5)) (ss_cons (s_set (q_bin o_add (q_var F 5) (q_lst (a_cons (q_tup (a_cons q_str (a_cons q_str (a_cons (q_bin o_pow q_int q_int) a_nil)))) (a_cons (q_tup (a_cons q_str (a_cons q_str (a_cons q_int a_nil)))) (a_cons (q_tup (a_cons q_str (a_cons q_str (a_cons (q_neg q_int) a_nil)))) (a_cons (q_tup (a_cons q_str (a_cons q_str (a_cons (q_tup (a_cons q_str a_nil)) a_nil)))) (a_cons (q_tup (a_cons q_str (a_cons (q_lst (a_cons q_str a_nil)) (a_cons q_str a_nil)))) a_nil))))))) (g_name F 5)) (ss_one (s_ret (q_bin o_add (q_var F 5) (q_lst (a_cons (q_lst (a_cons q_str (a_cons q_str (a_cons q_str a_nil)))) (a_cons (q_tup (a_cons q_str (a_cons q_str (a_cons q_str a_nil)))) (a_cons (q_tup a_nil) (a_cons q_none (a_cons q_str (a_cons q_dct0 (a_cons q_int (a_cons (q_tup (a_cons (q_var F 0) a_nil)) (a_cons (q_tup (a_cons q_str (a_cons q_str (a_cons q_str (a_cons q_str a_nil))))) (a_cons (q_tup (a_cons q_str a_nil)) a_nil)))))))))))))))))))))))))), ?_⟩
    have bb : B1 ≤ B2 := by decide
    have fp : Fn B2 250 1 p := hx.f.mono bb (Nat.le_refl _) (Nat.le_refl _)
    have o_p := fp.o
    have w_p := fp.w
    have d_p := fp.d
    refine ⟨⟨by decide, by decide⟩, fun j σ M' => ∃ (x : PyData) (i2 : Option W), σ = [some (.d p), some (.d x), i2, none, none, none] ∧ Fn B2 (250 + 10 * j) (1 + j) x ∧ M' = M, ⟨p, _, rfl, fp, rfl⟩, fun _ _ _ _ => trivial, ?_, ?_⟩
    · rintro j w σ M2 hj ⟨x, i2, rfl, fx, rfl⟩
      have o_x := fx.o
      have w_x := fx.w
      have d_x := fx.d
      refine ⟨sm2, _, _, rfl, ⟨?_, ?_, ?_⟩, rfl⟩
      · simp only [okL, okLA, Bool.and_eq_true, so_not, o_x, and_self]
      · simp only [PyData.weight, PyData.weightAll, strSize, sl_not]; omega
      · simp only [PyData.depth, PyData.depthAll]; omega
    rintro σ M2 ⟨deep, i2, rfl, fx, rfl⟩
    have fx : Fn B2 300 6 deep := fx.mono (Nat.le_refl _) (by decide) (by decide)
    have o_x := fx.o
    have w_x := fx.w
    have d_x := fx.d
    dsimp only
    refine sq_cut (fun σ M' => ∃ y, Fn B2 1511 3 y ∧ σ = [some (.d p), some (.d deep), i2, some (.d y), none, none] ∧ M2 = M') (fun N hN => ?_) ?_
    · exact ⟨sm1, by simp, by decide, by decide, (show 1 ≤ 1000 by decide), sm2, hN _ _ ⟨_, (fn_rep (.inl rfl) fp 6).mono (Nat.le_refl _) (by decide) (by decide), rfl, rfl⟩⟩
    rintro _ _ ⟨six, f6, rfl, rfl⟩
    have o_6 := f6.o
    have w_6 := f6.w
    have d_6 := f6.d
    refine sq_cut (fun σ M' => ∃ y, Fn B2 7565 5 y ∧ σ = [some (.d p), some (.d deep), i2, some (.d six), some (.d y), none] ∧ M2 = M') (fun N hN => ?_) ?_
    · exact ⟨sm1, by simp, by decide, by decide, (show 1 ≤ 1000 by decide), sm2, hN _ _ ⟨_, (fn_rep (.inr rfl) f6 5).mono (Nat.le_refl _) (by decide) (by decide), rfl, rfl⟩⟩
    rintro _ _ ⟨five, f5, rfl, rfl⟩
    have o_5 := f5.o
    have w_5 := f5.w
    have d_5 := f5.d
    have p6 : powOk 10 6 := powOk_of (n := 4) (by decide) (by decide) (by decide)
    have f7 := (fn_rep (.inr rfl) fp 7).mono (Nat.le_refl _) (show 7 * (250 + 1) + 5 ≤ 30000 by decide) (show 1 + 2 ≤ 16 by decide)
    refine sq_cut (fun σ M' => ∃ ds : List PyData, σ = [some (.d p), some (.d deep), i2, some (.d six), some (.d five), some (.d (.list ds))] ∧ M2 = M' ∧ ds.length ≤ 5 ∧ ∀ d ∈ ds, Fn B2 30000 16 d) (fun N hN => ?_) ?_
    · repeat (refine ⟨by first | exact small_of (by first | (simp; done) | (simp; omega)) | exact p6 | (simp; done) | decide, ?_⟩)
      refine hN _ _ ⟨_, rfl, rfl, by simp; try omega, ?_⟩
      intro d hd
      simp only [List.mem_cons, List.not_mem_nil, or_false] at hd
      rcases hd with rfl | rfl | rfl | rfl | rfl
      all_goals
        first
        | exact ⟨by decide +kernel, by decide +kernel, by decide +kernel⟩
        | exact fx.mono (Nat.le_refl _) (by decide) (by decide)
        | exact f5.mono (Nat.le_refl _) (by decide) (by decide)
        | exact f7
        | (refine ⟨?_, ?_, ?_⟩
           · simp only [okL, okLA, Bool.and_eq_true, so_not, so_and, so_or, so_any, so_every, so_r, so_s, so_is, o_x, o_p, o_5, o_6, and_self]
           · simp only [PyData.weight, PyData.weightAll, strSize, sl_not, sl_and, sl_or, sl_any, sl_every, sl_r, sl_s, sl_is]; omega
           · simp only [PyData.depth, PyData.depthAll]; omega)
    rintro _ _ ⟨ds, rfl, rfl, hl, hds⟩
    refine sq_cut (fun σ M' => ∃ ds : List PyData, σ = [some (.d p), some (.d deep), i2, some (.d six), some (.d five), some (.d (.list ds))] ∧ M2 = M' ∧ ds.length ≤ 10 ∧ ∀ d ∈ ds, Fn B2 30000 16 d) (fun N hN => ?_) ?_
    · repeat (refine ⟨by first | exact small_of (by first | (simp; done) | (simp; omega)) | exact p6 | (simp; done) | decide, ?_⟩)
      refine hN _ _ ⟨_, rfl, rfl, by simp; try omega, ?_⟩
      intro d hd
      rcases List.mem_append.mp hd with hd | hd
      · exact hds d hd
      · simp only [List.mem_cons, List.not_mem_nil, or_false] at hd
        rcases hd with rfl | rfl | rfl | rfl | rfl
        all_goals
          first
          | exact ⟨by decide +kernel, by decide +kernel, by decide +kernel⟩
          | exact fx.mono (Nat.le_refl _) (by decide) (by decide)
          | exact f5.mono (Nat.le_refl _) (by decide) (by decide)
          | exact f7
          | (refine ⟨?_, ?_, ?_⟩
             · simp only [okL, okLA, Bool.and_eq_true, so_not, so_and, so_or, so_any, so_every, so_r, so_s, so_is, o_x, o_p, o_5, o_6, and_self]
             · simp only [PyData.weight, PyData.weightAll, strSize, sl_not, sl_and, sl_or, sl_any, sl_every, sl_r, sl_s, sl_is]; omega
             · simp only [PyData.depth, PyData.depthAll]; omega)
    rintro _ _ ⟨ds, rfl, rfl, hl, hds⟩
    refine sq_cut (fun σ M' => ∃ ds : List PyData, σ = [some (.d p), some (.d deep), i2, some (.d six), some (.d five), some (.d (.list ds))] ∧ M2 = M' ∧ ds.length ≤ 13 ∧ ∀ d ∈ ds, Fn B2 30000 16 d) (fun N hN => ?_) ?_
    · repeat (refine ⟨by first | exact small_of (by first | (simp; done) | (simp; omega)) | exact p6 | (simp; done) | decide, ?_⟩)
      refine hN _ _ ⟨_, rfl, rfl, by simp; try omega, ?_⟩
      intro d hd
      rcases List.mem_append.mp hd with hd | hd
      · exact hds d hd
      · simp only [List.mem_cons, List.not_mem_nil, or_false] at hd
        rcases hd with rfl | rfl | rfl
        all_goals
          first
          | exact ⟨by decide +kernel, by decide +kernel, by decide +kernel⟩
          | exact fx.mono (Nat.le_refl _) (by decide) (by decide)
          | exact f5.mono (Nat.le_refl _) (by decide) (by decide)
          | exact f7
          | (refine ⟨?_, ?_, ?_⟩
             · simp only [okL, okLA, Bool.and_eq_true, so_not, so_and, so_or, so_any, so_every, so_r, so_s, so_is, o_x, o_p, o_5, o_6, and_self]
             · simp only [PyData.weight, PyData.weightAll, strSize, sl_not, sl_and, sl_or, sl_any, sl_every, sl_r, sl_s, sl_is]; omega
             · simp only [PyData.depth, PyData.depthAll]; omega)
    rintro _ _ ⟨ds, rfl, rfl, hl, hds⟩
    refine sq_cut (fun σ M' => ∃ ds : List PyData, σ = [some (.d p), some (.d deep), i2, some (.d six), some (.d five), some (.d (.list ds))] ∧ M2 = M' ∧ ds.length ≤ 15 ∧ ∀ d ∈ ds, Fn B2 30000 16 d) (fun N hN => ?_) ?_
    · repeat (refine ⟨by first | exact small_of (by first | (simp; done) | (simp; omega)) | exact p6 | (simp; done) | decide, ?_⟩)
      refine hN _ _ ⟨_, rfl, rfl, by simp; try omega, ?_⟩
      intro d hd
      rcases List.mem_append.mp hd with hd | hd
      · exact hds d hd
      · simp only [List.mem_cons, List.not_mem_nil, or_false] at hd
        rcases hd with rfl | rfl
        all_goals
          first
          | exact ⟨by decide +kernel, by decide +kernel, by decide +kernel⟩
          | exact fx.mono (Nat.le_refl _) (by decide) (by decide)
          | exact f5.mono (Nat.le_refl _) (by decide) (by decide)
          | exact f7
          | (refine ⟨?_, ?_, ?_⟩
             · simp only [okL, okLA, Bool.and_eq_true, so_not, so_and, so_or, so_any, so_every, so_r, so_s, so_is, o_x, o_p, o_5, o_6, and_self]
             · simp only [PyData.weight, PyData.weightAll, strSize, sl_not, sl_and, sl_or, sl_any, sl_every, sl_r, sl_s, sl_is]; omega
             · simp only [PyData.depth, PyData.depthAll]; omega)
    rintro _ _ ⟨ds, rfl, rfl, hl, hds⟩
    refine sq_cut (fun σ M' => ∃ ds : List PyData, σ = [some (.d p), some (.d deep), i2, some (.d six), some (.d five), some (.d (.list ds))] ∧ M2 = M' ∧ ds.length ≤ 20 ∧ ∀ d ∈ ds, Fn B2 30000 16 d) (fun N hN => ?_) ?_
    · repeat (refine ⟨by first | exact small_of (by first | (simp; done) | (simp; omega)) | exact p6 | (simp; done) | decide, ?_⟩)
      refine hN _ _ ⟨_, rfl, rfl, by simp; try omega, ?_⟩
      intro d hd
      rcases List.mem_append.mp hd with hd | hd
      · exact hds d hd
      · simp only [List.mem_cons, List.not_mem_nil, or_false] at hd
        rcases hd with rfl | rfl | rfl | rfl | rfl
        all_goals
          first
          | exact ⟨by decide +kernel, by decide +kernel, by decide +kernel⟩
          | exact fx.mono (Nat.le_refl _) (by decide) (by decide)
          | exact f5.mono (Nat.le_refl _) (by decide) (by decide)
          | exact f7
          | (refine ⟨?_, ?_, ?_⟩
             · simp only [okL, okLA, Bool.and_eq_true, so_not, so_and, so_or, so_any, so_every, so_r, so_s, so_is, o_x, o_p, o_5, o_6, and_self]
             · simp only [PyData.weight, PyData.weightAll, strSize, sl_not, sl_and, sl_or, sl_any, sl_every, sl_r, sl_s, sl_is]; omega
             · simp only [PyData.depth, PyData.depthAll]; omega)
    rintro _ _ ⟨ds, rfl, rfl, hl, hds⟩
    refine sq_cut (fun σ M' => ∃ ds : List PyData, σ = [some (.d p), some (.d deep), i2, some (.d six), some (.d five), some (.d (.list ds))] ∧ M2 = M' ∧ ds.length ≤ 23 ∧ ∀ d ∈ ds, Fn B2 30000 16 d) (fun N hN => ?_) ?_
    · repeat (refine ⟨by first | exact small_of (by first | (simp; done) | (simp; omega)) | exact p6 | (simp; done) | decide, ?_⟩)
      refine hN _ _ ⟨_, rfl, rfl, by simp; try omega, ?_⟩
      intro d hd
      rcases List.mem_append.mp hd with hd | hd
      · exact hds d hd
      · simp only [List.mem_cons, List.not_mem_nil, or_false] at hd
        rcases hd with rfl | rfl | rfl
        all_goals
          first
          | exact ⟨by decide +kernel, by decide +kernel, by decide +kernel⟩
          | exact fx.mono (Nat.le_refl _) (by decide) (by decide)
          | exact f5.mono (Nat.le_refl _) (by decide) (by decide)
          | exact f7
          | (refine ⟨?_, ?_, ?_⟩
             · simp only [okL, okLA, Bool.and_eq_true, so_not, so_and, so_or, so_any, so_every, so_r, so_s, so_is, o_x, o_p, o_5, o_6, and_self]
             · simp only [PyData.weight, PyData.weightAll, strSize, sl_not, sl_and, sl_or, sl_any, sl_every, sl_r, sl_s, sl_is]; omega
             · simp only [PyData.depth, PyData.depthAll]; omega)
    rintro _ _ ⟨ds, rfl, rfl, hl, hds⟩
    refine sq_cut (fun σ M' => ∃ ds : List PyData, σ = [some (.d p), some (.d deep), i2, some (.d six), some (.d five), some (.d (.list ds))] ∧ M2 = M' ∧ ds.length ≤ 28 ∧ ∀ d ∈ ds, Fn B2 30000 16 d) (fun N hN => ?_) ?_
    · repeat (refine ⟨by first | exact small_of (by first | (simp; done) | (simp; omega)) | exact p6 | (simp; done) | decide, ?_⟩)
      refine hN _ _ ⟨_, rfl, rfl, by simp; try omega, ?_⟩
      intro d hd
      rcases List.mem_append.mp hd with hd | hd
      · exact hds d hd
      · simp only [List.mem_cons, List.not_mem_nil, or_false] at hd
        rcases hd with rfl | rfl | rfl | rfl | rfl
        all_goals
          first
          | exact ⟨by decide +kernel, by decide +kernel, by decide +kernel⟩
          | exact fx.mono (Nat.le_refl _) (by decide) (by decide)
          | exact f5.mono (Nat.le_refl _) (by decide) (by decide)
          | exact f7
          | (refine ⟨?_, ?_, ?_⟩
             · simp only [okL, okLA, Bool.and_eq_true, so_not, so_and, so_or, so_any, so_every, so_r, so_s, so_is, o_x, o_p, o_5, o_6, and_self]
             · simp only [PyData.weight, PyData.weightAll, strSize, sl_not, sl_and, sl_or, sl_any, sl_every, sl_r, sl_s, sl_is]; omega
             · simp only [PyData.depth, PyData.depthAll]; omega)
    rintro _ _ ⟨ds, rfl, rfl, hl, hds⟩
    refine sq_cut (fun σ M' => ∃ ds : List PyData, σ = [some (.d p), some (.d deep), i2, some (.d six), some (.d five), some (.d (.list ds))] ∧ M2 = M' ∧ ds.length ≤ 33 ∧ ∀ d ∈ ds, Fn B2 30000 16 d) (fun N hN => ?_) ?_
    · repeat (refine ⟨by first | exact small_of (by first | (simp; done) | (simp; omega)) | exact p6 | (simp; done) | decide, ?_⟩)
      refine hN _ _ ⟨_, rfl, rfl, by simp; try omega, ?_⟩
      intro d hd
      rcases List.mem_append.mp hd with hd | hd
      · exact hds d hd
      · simp only [List.mem_cons, List.not_mem_nil, or_false] at hd
        rcases hd with rfl | rfl | rfl | rfl | rfl
        all_goals
          first
          | exact ⟨by decide +kernel, by decide +kernel, by decide +kernel⟩
          | exact fx.mono (Nat.le_refl _) (by decide) (by decide)
          | exact f5.mono (Nat.le_refl _) (by decide) (by decide)
          | exact f7
          | (refine ⟨?_, ?_, ?_⟩
             · simp only [okL, okLA, Bool.and_eq_true, so_not, so_and, so_or, so_any, so_every, so_r, so_s, so_is, o_x, o_p, o_5, o_6, and_self]
             · simp only [PyData.weight, PyData.weightAll, strSize, sl_not, sl_and, sl_or, sl_any, sl_every, sl_r, sl_s, sl_is]; omega
             · simp only [PyData.depth, PyData.depthAll]; omega)
    rintro _ _ ⟨ds, rfl, rfl, hl, hds⟩
    repeat (refine ⟨by first | exact small_of (by first | (simp; done) | (simp; omega)) | exact p6 | (simp; done) | decide, ?_⟩)
    refine h _ ⟨_, rfl, by simp; omega, ?_⟩
    intro d hd
    rcases List.mem_append.mp hd with hd | hd
    · exact hds d hd
    · simp only [List.mem_cons, List.not_mem_nil, or_false] at hd
      rcases hd with rfl | rfl | rfl | rfl | rfl | rfl | rfl | rfl | rfl | rfl
      all_goals
        first
        | exact ⟨by decide +kernel, by decide +kernel, by decide +kernel⟩
        | exact fx.mono (Nat.le_refl _) (by decide) (by decide)
        | exact f5.mono (Nat.le_refl _) (by decide) (by decide)
        | exact f7
        | (refine ⟨?_, ?_, ?_⟩
           · simp only [okL, okLA, Bool.and_eq_true, so_not, so_and, so_or, so_any, so_every, so_r, so_s, so_is, o_x, o_p, o_5, o_6, and_self]
           · simp only [PyData.weight, PyData.weightAll, strSize, sl_not, sl_and, sl_or, sl_any, sl_every, sl_r, sl_s, sl_is]; omega
           · simp only [PyData.depth, PyData.depthAll]; omega)
end Ms
set_option Elab.async false
set_option linter.all false
set_option maxRecDepth 100000
namespace Ms
open PySem PySem.Spec PyProof.Rows L2 Dl
theorem okT_of {B w d : Nat} {x : PyData} (h : Fn B w d x) (hB : B ≤ 2 ^ 198 := by decide) (hw : w ≤ 16000000 := by decide) : okT x := ⟨okL_mono hB x h.o, Nat.le_trans h.w hw⟩
theorem law_ok {g : Gc} {f : Addr} {fd : FuncData} (T : Txt g) (F : L2.Fun g.K "law" "law" s_law f fd) : FnG g 19 f fd ["_law_script"] spLaw := by
  refine fng_of (k := 19 - 1) (i := i_law) F sc_law ok_law T.sy spLaw_len (fun Y ws M Q E F hE h => ?_)
  obtain ⟨ns, rfl, hns, h⟩ := h
  refine ⟨_, (ss_cons (s_for F (i_rng1 F 0 T.n_range (a_cons (q_callB F 1 (c_max F) T.n_max (by decide +kernel) (a_cons q_int (a_cons (q_callB F 6 (c_min F) T.n_min (by decide +kernel) (a_cons q_int (a_cons (q_callB F 11 c_len T.n_len (by decide +kernel) (a_cons (q_var F 0) a_nil)) a_nil))) a_nil))) a_nil)) (g_name F 1) (ss_cons (s_set (q_call F 2 (d_L_pot T) (a_cons (q_var F 0) (a_cons (q_var F 1) a_nil))) (g_cell F 2)) (ss_cons (s_set (q_call F 3 (d_L_names T) (a_cons (q_var F 2) a_nil)) (g_name F 3)) (ss_cons (s_set (q_call F 4 (d_L_condition T) (a_cons (q_var F 2) (a_cons (q_var F 3) a_nil))) (g_cell F 4)) (ss_cons (s_if (t_cmp o_isNot (q_call F 7 (d_is_condition T) (a_cons (q_var F 4) a_nil)) q_bool) (ss_one (s_ret q_bool)) ss_nil) (ss_cons (s_set (q_call F 5 (d_L_wrapped T) (a_cons (q_var F 2) (a_cons (q_call F 8 (d_L_piece T) (a_cons (q_var F 2) (a_cons (q_var F 3) a_nil))) a_nil))) (g_name F 5)) (ss_cons (s_set (q_bin o_add (q_bin o_add (q_var F 5) (q_lc (own := [("_law_turn", 9)]) F ⟨_, ["_law_script", "_law_k", "_law_pot_here", "_law_names_here", "_law_condition_here", "_law_things", "_law_thing", "_law_shown", "_law_found", "_law_turn"], [9, 2, 4], [9], [], ["_law_bent", "_law_take"]⟩ (.one 9) ⟨rfl, rfl, ⟨rfl, by decide +kernel, by decide +kernel, by decide +kernel, by decide +kernel⟩, by decide +kernel, by decide +kernel⟩ (by decide) (i_rng1 F 0 T.n_range (a_cons q_int a_nil)) (fun _ F hw => ⟨(pgN F 9), ts_nil, (q_callW hw F 0 (d_L_bent T 8) (a_cons (q_var F 2) (a_cons (q_var F 4) (a_cons (q_callW hw F 1 (d_L_take T) (a_cons (q_var F 2) (a_cons q_int a_nil))) a_nil))))⟩))) (q_lst (a_cons (q_var F 4) a_nil))) (g_name F 5)) (ss_one (s_for F (i_lst (q_bin o_add (q_var F 5) (q_call F 9 (d_L_fixed T) (a_cons (q_call F 8 (d_L_piece T) (a_cons (q_var F 2) (a_cons (q_var F 3) a_nil))) a_nil)))) (g_name F 6) (ss_cons (s_set (q_callB F 10 (c_repr F) T.n_repr (by decide +kernel) (a_cons (q_var F 6) a_nil)) (g_name F 7)) (ss_cons (s_set (q_call F 7 (d_is_condition T) (a_cons (q_var F 6) a_nil)) (g_name F 8)) (ss_one (s_if (QW.pt (w_or (t_not (t_val (q_isi F 12 13 isk_bool T.n_isinstance T.n_bool (by decide +kernel) (q_var F 8)))) (w_or (t_cmp (o_ne F) (q_var F 8) (q_call F 14 (d_L_is_condition T) (a_cons (q_var F 6) a_nil))) (w_or1 (t_cmp (o_ne F) (q_callB F 10 (c_repr F) T.n_repr (by decide +kernel) (a_cons (q_var F 6) a_nil)) (q_var F 7)))))) (ss_one (s_ret q_bool)) ss_nil))))))))))))) (ss_one (s_ret q_bool))), ?_⟩
  have lo : lots = 1073741824 := by decide
  refine ⟨⟨by omega, by omega⟩, fun j σ M' => ∃ x1 x2 x3 x4 x5 x6 x7 x8 x9, σ = [some (.scr (ns.map PyData.int)), x1, x2, x3, x4, x5, x6, x7, x8, x9], ⟨_, _, _, _, _, _, _, _, _, rfl⟩, fun _ _ _ _ => trivial, ?_, fun _ M' _ => h M'⟩
  rintro j w σ M1 hj ⟨x1, x2, x3, x4, x5, x6, x7, x8, x9, rfl⟩
  obtain ⟨hj', rfl⟩ := rng_get hj
  have hj16 : j < 10 := by omega
  refine ⟨ns, _, rfl, by omega, by omega, fun p M2 np pt _ => ?_⟩
  refine ⟨p, 0, rfl, by omega, pt, fun nms M3 hnm p3 o3 => ?_⟩
  refine ⟨p, _, nms, rfl, hnm, by omega, p3, fun x M4 hx p4 o4 => ?_⟩
  refine ⟨x, rfl, okT_of hx.f, ?_⟩
  dsimp only [tK, rIsNot]
  refine bqc false (by rw [hx.c]; rfl) ?_
  refine ⟨p, _, nms, rfl, hnm, by omega, p4, fun y M5 hy p5 o5 => ?_⟩
  refine ⟨p, _, y, rfl, hy, by omega, p5, fun ts M6 hts p6 o6 => ?_⟩
  obtain ⟨ts, rfl, hl6, hts⟩ := hts
  refine ⟨⟨by decide, by decide⟩, ?_⟩
  refine lcDraw (T := .one 9) p _ 41 (Fn B2 30000 16) ?_ (fun _ => trivial) p6 ?_ ?_
  · decide
  · intro i w hw M7 p7 o7 R r
    obtain ⟨hi, rfl⟩ := rng_get hw
    have hi : i < 10 := hi
    refine ⟨p, _, 8, rfl, by decide, by decide, by omega, p7, fun r8 M8 a8 b8 p8 o8 => ?_⟩
    refine ⟨p, _, x, r8, 13000, 12, rfl, a8, (show r8 ≤ 7 by omega), hx.f, hx.l, by decide, by decide, ?_, p8, fun z M9 hz p9 o9 => ?_⟩
    · show 0 + 40 + 300000 + 5 + 20 + 41 * i + 1 + 5 * (7 + 1) ≤ lots
      omega
    · exact r z M9 (hz.mono (Nat.le_refl _) (by decide) (by decide)) (p9.mono (by show _ + 5 * (7 + 1) ≤ _; omega)) (o8.trans o9)
  · intro ds M7 hl7 hd7 p7 o7
    have hl7 : ds.length = 10 := hl7
    refine ⟨small_of (by omega), sm1, small_of (by rw [List.length_append]; show _ + 1 ≤ _; omega), ?_⟩
    have p7 : Pot p (0 + 40 + 300000 + 5 + 20 + 41 * 10) M7 := p7
    refine ⟨p, _, nms, rfl, hnm, by omega, p7, fun y2 M8 hy2 p8 o8 => ?_⟩
    refine ⟨y2, rfl, hy2, fun fx hfx => ?_⟩
    obtain ⟨fs, rfl, hlf, hfs⟩ := hfx
    refine ⟨small_of (by simp; omega), ?_⟩
    refine ⟨fun _ σ M' => ∃ x6 x7 x8, σ = [some (.scr (ns.map PyData.int)), some (.d (.int (0 + (j : Int)))), some (.ref p), some (.d nms), some (.d x), some (.d (.list (ts ++ ds ++ [x]))), x6, x7, x8, x9], ⟨_, _, _, rfl⟩, fun _ _ _ _ => trivial, ?_, ?_⟩
    · rintro i w σ M9 hi ⟨x6, x7, x8, rfl⟩
      obtain ⟨d, rfl, hm⟩ := mem_map_get hi
      have fd : Fn B2 30000 16 d := by
        simp only [List.mem_append, List.mem_singleton] at hm
        rcases hm with ((hm | hm) | rfl) | hm
        · exact hts d hm
        · exact hd7 d hm
        · exact hx.f.mono (by decide) (by decide) (by decide)
        · exact hfs d hm
      have ok := okT_of fd
      have sh := fd.show (by decide) (by decide) (by decide)
      exact ⟨sh, d, rfl, ok, d, rfl, ok, rfl, bqc false (by simp [PyData.eqv]) ⟨sh, rfl, bqc false (by simp [PyData.eqv]) ⟨_, _, _, rfl⟩⟩⟩
    · rintro σ M9 ⟨x6, x7, x8, rfl⟩
      exact ⟨_, _, _, _, _, _, _, _, _, rfl⟩
theorem all_mk {l : PySem.W.OpenLaw} {w : World} {K : PySem.W.Frag} {h : Heap} {mg : Str → Option Value} {fa f_is_whole f_is_within f_is_number f_is_name f_is_piece f_pieces_of_parts f_pieces_in f_is_condition f_L_pot f_L_take f_L_words f_L_name f_L_is_name f_L_is_within f_L_odd f_L_bent f_L_names f_L_piece f_L_drawn f_L_condition f_L_pieces f_L_is_condition f_L_wrapped f_L_fixed f_law : Addr} (X : K.In h) (G : h.Ns mainGlobals mg) (hfa : mg "law" = some (.ref fa))
    {od_is_whole an_is_whole od_is_within an_is_within od_is_number an_is_number od_is_name an_is_name od_is_piece an_is_piece od_pieces_of_parts an_pieces_of_parts od_pieces_in an_pieces_in od_is_condition an_is_condition od_L_pot an_L_pot od_L_take an_L_take od_L_words an_L_words od_L_name an_L_name od_L_is_name an_L_is_name od_L_is_within an_L_is_within od_L_odd an_L_odd od_L_bent an_L_bent od_L_names an_L_names od_L_piece an_L_piece od_L_drawn an_L_drawn od_L_condition an_L_condition od_L_pieces an_L_pieces od_L_is_condition an_L_is_condition od_L_wrapped an_L_wrapped od_L_fixed an_L_fixed od_law an_law : Option Addr} {sl_is_whole sl_is_within sl_is_number sl_is_name sl_is_piece sl_pieces_of_parts sl_pieces_in sl_is_condition sl_L_pot sl_L_take sl_L_words sl_L_name sl_L_is_name sl_L_is_within sl_L_odd sl_L_bent sl_L_names sl_L_piece sl_L_drawn sl_L_condition sl_L_pieces sl_L_is_condition sl_L_wrapped sl_L_fixed sl_law : Array (Option Value)} {oc_is_whole kV_is_whole dc_is_whole pm_is_whole cd_is_whole ct_is_whole oc_is_within kV_is_within dc_is_within pm_is_within cd_is_within ct_is_within oc_is_number kV_is_number dc_is_number pm_is_number cd_is_number ct_is_number oc_is_name kV_is_name dc_is_name pm_is_name cd_is_name ct_is_name oc_is_piece kV_is_piece dc_is_piece pm_is_piece cd_is_piece ct_is_piece oc_pieces_of_parts kV_pieces_of_parts dc_pieces_of_parts pm_pieces_of_parts cd_pieces_of_parts ct_pieces_of_parts oc_pieces_in kV_pieces_in dc_pieces_in pm_pieces_in cd_pieces_in ct_pieces_in oc_is_condition kV_is_condition dc_is_condition pm_is_condition cd_is_condition ct_is_condition oc_L_pot kV_L_pot dc_L_pot pm_L_pot cd_L_pot ct_L_pot oc_L_take kV_L_take dc_L_take pm_L_take cd_L_take ct_L_take oc_L_words kV_L_words dc_L_words pm_L_words cd_L_words ct_L_words oc_L_name kV_L_name dc_L_name pm_L_name cd_L_name ct_L_name oc_L_is_name kV_L_is_name dc_L_is_name pm_L_is_name cd_L_is_name ct_L_is_name oc_L_is_within kV_L_is_within dc_L_is_within pm_L_is_within cd_L_is_within ct_L_is_within oc_L_odd kV_L_odd dc_L_odd pm_L_odd cd_L_odd ct_L_odd oc_L_bent kV_L_bent dc_L_bent pm_L_bent cd_L_bent ct_L_bent oc_L_names kV_L_names dc_L_names pm_L_names cd_L_names ct_L_names oc_L_piece kV_L_piece dc_L_piece pm_L_piece cd_L_piece ct_L_piece oc_L_drawn kV_L_drawn dc_L_drawn pm_L_drawn cd_L_drawn ct_L_drawn oc_L_condition kV_L_condition dc_L_condition pm_L_condition cd_L_condition ct_L_condition oc_L_pieces kV_L_pieces dc_L_pieces pm_L_pieces cd_L_pieces ct_L_pieces oc_L_is_condition kV_L_is_condition dc_L_is_condition pm_L_is_condition cd_L_is_condition ct_L_is_condition oc_L_wrapped kV_L_wrapped dc_L_wrapped pm_L_wrapped cd_L_wrapped ct_L_wrapped oc_L_fixed kV_L_fixed dc_L_fixed pm_L_fixed cd_L_fixed ct_L_fixed oc_law kV_law dc_law pm_law cd_law ct_law : Value} {u_MOST_NUMBER u_WORDS u_MOST_LETTERS u_LETTERS u_MOST_PARTS u_MOST_DEEP u_MOST_PIECES : Value} {dt_PIECES : Addr} {et_PIECES : Array DictEntry} {nt_PIECES : Nat}
    (a_is_whole : PySem.W.nsIn K mainGlobals "is_whole" = some (some (.ref f_is_whole))) (l_is_whole : K.lookup f_is_whole = some ⟨oc_is_whole, od_is_whole, .func (PySem.W.fnOf "is_whole" "is_whole" (defArgs s_is_whole) (defBody s_is_whole) (defScope s_is_whole) .none kV_is_whole dc_is_whole pm_is_whole an_is_whole cd_is_whole ct_is_whole), sl_is_whole⟩) (c_is_whole : PySem.W.codeIn K cd_is_whole "is_whole" = true) (k_is_whole : PySem.W.keepIn K (.ref f_is_whole) = true)
    (a_is_within : PySem.W.nsIn K mainGlobals "is_within" = some (some (.ref f_is_within))) (l_is_within : K.lookup f_is_within = some ⟨oc_is_within, od_is_within, .func (PySem.W.fnOf "is_within" "is_within" (defArgs s_is_within) (defBody s_is_within) (defScope s_is_within) .none kV_is_within dc_is_within pm_is_within an_is_within cd_is_within ct_is_within), sl_is_within⟩) (c_is_within : PySem.W.codeIn K cd_is_within "is_within" = true) (k_is_within : PySem.W.keepIn K (.ref f_is_within) = true)
    (a_is_number : PySem.W.nsIn K mainGlobals "is_number" = some (some (.ref f_is_number))) (l_is_number : K.lookup f_is_number = some ⟨oc_is_number, od_is_number, .func (PySem.W.fnOf "is_number" "is_number" (defArgs s_is_number) (defBody s_is_number) (defScope s_is_number) .none kV_is_number dc_is_number pm_is_number an_is_number cd_is_number ct_is_number), sl_is_number⟩) (c_is_number : PySem.W.codeIn K cd_is_number "is_number" = true) (k_is_number : PySem.W.keepIn K (.ref f_is_number) = true)
    (a_is_name : PySem.W.nsIn K mainGlobals "is_name" = some (some (.ref f_is_name))) (l_is_name : K.lookup f_is_name = some ⟨oc_is_name, od_is_name, .func (PySem.W.fnOf "is_name" "is_name" (defArgs s_is_name) (defBody s_is_name) (defScope s_is_name) .none kV_is_name dc_is_name pm_is_name an_is_name cd_is_name ct_is_name), sl_is_name⟩) (c_is_name : PySem.W.codeIn K cd_is_name "is_name" = true) (k_is_name : PySem.W.keepIn K (.ref f_is_name) = true)
    (a_is_piece : PySem.W.nsIn K mainGlobals "is_piece" = some (some (.ref f_is_piece))) (l_is_piece : K.lookup f_is_piece = some ⟨oc_is_piece, od_is_piece, .func (PySem.W.fnOf "is_piece" "is_piece" (defArgs s_is_piece) (defBody s_is_piece) (defScope s_is_piece) .none kV_is_piece dc_is_piece pm_is_piece an_is_piece cd_is_piece ct_is_piece), sl_is_piece⟩) (c_is_piece : PySem.W.codeIn K cd_is_piece "is_piece" = true) (k_is_piece : PySem.W.keepIn K (.ref f_is_piece) = true)
    (a_pieces_of_parts : PySem.W.nsIn K mainGlobals "pieces_of_parts" = some (some (.ref f_pieces_of_parts))) (l_pieces_of_parts : K.lookup f_pieces_of_parts = some ⟨oc_pieces_of_parts, od_pieces_of_parts, .func (PySem.W.fnOf "pieces_of_parts" "pieces_of_parts" (defArgs s_pieces_of_parts) (defBody s_pieces_of_parts) (defScope s_pieces_of_parts) .none kV_pieces_of_parts dc_pieces_of_parts pm_pieces_of_parts an_pieces_of_parts cd_pieces_of_parts ct_pieces_of_parts), sl_pieces_of_parts⟩) (c_pieces_of_parts : PySem.W.codeIn K cd_pieces_of_parts "pieces_of_parts" = true) (k_pieces_of_parts : PySem.W.keepIn K (.ref f_pieces_of_parts) = true)
    (a_pieces_in : PySem.W.nsIn K mainGlobals "pieces_in" = some (some (.ref f_pieces_in))) (l_pieces_in : K.lookup f_pieces_in = some ⟨oc_pieces_in, od_pieces_in, .func (PySem.W.fnOf "pieces_in" "pieces_in" (defArgs s_pieces_in) (defBody s_pieces_in) (defScope s_pieces_in) .none kV_pieces_in dc_pieces_in pm_pieces_in an_pieces_in cd_pieces_in ct_pieces_in), sl_pieces_in⟩) (c_pieces_in : PySem.W.codeIn K cd_pieces_in "pieces_in" = true) (k_pieces_in : PySem.W.keepIn K (.ref f_pieces_in) = true)
    (a_is_condition : PySem.W.nsIn K mainGlobals "is_condition" = some (some (.ref f_is_condition))) (l_is_condition : K.lookup f_is_condition = some ⟨oc_is_condition, od_is_condition, .func (PySem.W.fnOf "is_condition" "is_condition" (defArgs s_is_condition) (defBody s_is_condition) (defScope s_is_condition) .none kV_is_condition dc_is_condition pm_is_condition an_is_condition cd_is_condition ct_is_condition), sl_is_condition⟩) (c_is_condition : PySem.W.codeIn K cd_is_condition "is_condition" = true) (k_is_condition : PySem.W.keepIn K (.ref f_is_condition) = true)
    (a_L_pot : PySem.W.nsIn K mainGlobals "_law_pot" = some (some (.ref f_L_pot))) (l_L_pot : K.lookup f_L_pot = some ⟨oc_L_pot, od_L_pot, .func (PySem.W.fnOf "_law_pot" "_law_pot" (defArgs s_L_pot) (defBody s_L_pot) (defScope s_L_pot) .none kV_L_pot dc_L_pot pm_L_pot an_L_pot cd_L_pot ct_L_pot), sl_L_pot⟩) (c_L_pot : PySem.W.codeIn K cd_L_pot "_law_pot" = true) (k_L_pot : PySem.W.keepIn K (.ref f_L_pot) = true)
    (a_L_take : PySem.W.nsIn K mainGlobals "_law_take" = some (some (.ref f_L_take))) (l_L_take : K.lookup f_L_take = some ⟨oc_L_take, od_L_take, .func (PySem.W.fnOf "_law_take" "_law_take" (defArgs s_L_take) (defBody s_L_take) (defScope s_L_take) .none kV_L_take dc_L_take pm_L_take an_L_take cd_L_take ct_L_take), sl_L_take⟩) (c_L_take : PySem.W.codeIn K cd_L_take "_law_take" = true) (k_L_take : PySem.W.keepIn K (.ref f_L_take) = true)
    (a_L_words : PySem.W.nsIn K mainGlobals "_law_words" = some (some (.ref f_L_words))) (l_L_words : K.lookup f_L_words = some ⟨oc_L_words, od_L_words, .func (PySem.W.fnOf "_law_words" "_law_words" (defArgs s_L_words) (defBody s_L_words) (defScope s_L_words) .none kV_L_words dc_L_words pm_L_words an_L_words cd_L_words ct_L_words), sl_L_words⟩) (c_L_words : PySem.W.codeIn K cd_L_words "_law_words" = true) (k_L_words : PySem.W.keepIn K (.ref f_L_words) = true)
    (a_L_name : PySem.W.nsIn K mainGlobals "_law_name" = some (some (.ref f_L_name))) (l_L_name : K.lookup f_L_name = some ⟨oc_L_name, od_L_name, .func (PySem.W.fnOf "_law_name" "_law_name" (defArgs s_L_name) (defBody s_L_name) (defScope s_L_name) .none kV_L_name dc_L_name pm_L_name an_L_name cd_L_name ct_L_name), sl_L_name⟩) (c_L_name : PySem.W.codeIn K cd_L_name "_law_name" = true) (k_L_name : PySem.W.keepIn K (.ref f_L_name) = true)
    (a_L_is_name : PySem.W.nsIn K mainGlobals "_law_is_name" = some (some (.ref f_L_is_name))) (l_L_is_name : K.lookup f_L_is_name = some ⟨oc_L_is_name, od_L_is_name, .func (PySem.W.fnOf "_law_is_name" "_law_is_name" (defArgs s_L_is_name) (defBody s_L_is_name) (defScope s_L_is_name) .none kV_L_is_name dc_L_is_name pm_L_is_name an_L_is_name cd_L_is_name ct_L_is_name), sl_L_is_name⟩) (c_L_is_name : PySem.W.codeIn K cd_L_is_name "_law_is_name" = true) (k_L_is_name : PySem.W.keepIn K (.ref f_L_is_name) = true)
    (a_L_is_within : PySem.W.nsIn K mainGlobals "_law_is_within" = some (some (.ref f_L_is_within))) (l_L_is_within : K.lookup f_L_is_within = some ⟨oc_L_is_within, od_L_is_within, .func (PySem.W.fnOf "_law_is_within" "_law_is_within" (defArgs s_L_is_within) (defBody s_L_is_within) (defScope s_L_is_within) .none kV_L_is_within dc_L_is_within pm_L_is_within an_L_is_within cd_L_is_within ct_L_is_within), sl_L_is_within⟩) (c_L_is_within : PySem.W.codeIn K cd_L_is_within "_law_is_within" = true) (k_L_is_within : PySem.W.keepIn K (.ref f_L_is_within) = true)
    (a_L_odd : PySem.W.nsIn K mainGlobals "_law_odd" = some (some (.ref f_L_odd))) (l_L_odd : K.lookup f_L_odd = some ⟨oc_L_odd, od_L_odd, .func (PySem.W.fnOf "_law_odd" "_law_odd" (defArgs s_L_odd) (defBody s_L_odd) (defScope s_L_odd) .none kV_L_odd dc_L_odd pm_L_odd an_L_odd cd_L_odd ct_L_odd), sl_L_odd⟩) (c_L_odd : PySem.W.codeIn K cd_L_odd "_law_odd" = true) (k_L_odd : PySem.W.keepIn K (.ref f_L_odd) = true)
    (a_L_bent : PySem.W.nsIn K mainGlobals "_law_bent" = some (some (.ref f_L_bent))) (l_L_bent : K.lookup f_L_bent = some ⟨oc_L_bent, od_L_bent, .func (PySem.W.fnOf "_law_bent" "_law_bent" (defArgs s_L_bent) (defBody s_L_bent) (defScope s_L_bent) .none kV_L_bent dc_L_bent pm_L_bent an_L_bent cd_L_bent ct_L_bent), sl_L_bent⟩) (c_L_bent : PySem.W.codeIn K cd_L_bent "_law_bent" = true) (k_L_bent : PySem.W.keepIn K (.ref f_L_bent) = true)
    (a_L_names : PySem.W.nsIn K mainGlobals "_law_names" = some (some (.ref f_L_names))) (l_L_names : K.lookup f_L_names = some ⟨oc_L_names, od_L_names, .func (PySem.W.fnOf "_law_names" "_law_names" (defArgs s_L_names) (defBody s_L_names) (defScope s_L_names) .none kV_L_names dc_L_names pm_L_names an_L_names cd_L_names ct_L_names), sl_L_names⟩) (c_L_names : PySem.W.codeIn K cd_L_names "_law_names" = true) (k_L_names : PySem.W.keepIn K (.ref f_L_names) = true)
    (a_L_piece : PySem.W.nsIn K mainGlobals "_law_piece" = some (some (.ref f_L_piece))) (l_L_piece : K.lookup f_L_piece = some ⟨oc_L_piece, od_L_piece, .func (PySem.W.fnOf "_law_piece" "_law_piece" (defArgs s_L_piece) (defBody s_L_piece) (defScope s_L_piece) .none kV_L_piece dc_L_piece pm_L_piece an_L_piece cd_L_piece ct_L_piece), sl_L_piece⟩) (c_L_piece : PySem.W.codeIn K cd_L_piece "_law_piece" = true) (k_L_piece : PySem.W.keepIn K (.ref f_L_piece) = true)
    (a_L_drawn : PySem.W.nsIn K mainGlobals "_law_drawn" = some (some (.ref f_L_drawn))) (l_L_drawn : K.lookup f_L_drawn = some ⟨oc_L_drawn, od_L_drawn, .func (PySem.W.fnOf "_law_drawn" "_law_drawn" (defArgs s_L_drawn) (defBody s_L_drawn) (defScope s_L_drawn) .none kV_L_drawn dc_L_drawn pm_L_drawn an_L_drawn cd_L_drawn ct_L_drawn), sl_L_drawn⟩) (c_L_drawn : PySem.W.codeIn K cd_L_drawn "_law_drawn" = true) (k_L_drawn : PySem.W.keepIn K (.ref f_L_drawn) = true)
    (a_L_condition : PySem.W.nsIn K mainGlobals "_law_condition" = some (some (.ref f_L_condition))) (l_L_condition : K.lookup f_L_condition = some ⟨oc_L_condition, od_L_condition, .func (PySem.W.fnOf "_law_condition" "_law_condition" (defArgs s_L_condition) (defBody s_L_condition) (defScope s_L_condition) .none kV_L_condition dc_L_condition pm_L_condition an_L_condition cd_L_condition ct_L_condition), sl_L_condition⟩) (c_L_condition : PySem.W.codeIn K cd_L_condition "_law_condition" = true) (k_L_condition : PySem.W.keepIn K (.ref f_L_condition) = true)
    (a_L_pieces : PySem.W.nsIn K mainGlobals "_law_pieces" = some (some (.ref f_L_pieces))) (l_L_pieces : K.lookup f_L_pieces = some ⟨oc_L_pieces, od_L_pieces, .func (PySem.W.fnOf "_law_pieces" "_law_pieces" (defArgs s_L_pieces) (defBody s_L_pieces) (defScope s_L_pieces) .none kV_L_pieces dc_L_pieces pm_L_pieces an_L_pieces cd_L_pieces ct_L_pieces), sl_L_pieces⟩) (c_L_pieces : PySem.W.codeIn K cd_L_pieces "_law_pieces" = true) (k_L_pieces : PySem.W.keepIn K (.ref f_L_pieces) = true)
    (a_L_is_condition : PySem.W.nsIn K mainGlobals "_law_is_condition" = some (some (.ref f_L_is_condition))) (l_L_is_condition : K.lookup f_L_is_condition = some ⟨oc_L_is_condition, od_L_is_condition, .func (PySem.W.fnOf "_law_is_condition" "_law_is_condition" (defArgs s_L_is_condition) (defBody s_L_is_condition) (defScope s_L_is_condition) .none kV_L_is_condition dc_L_is_condition pm_L_is_condition an_L_is_condition cd_L_is_condition ct_L_is_condition), sl_L_is_condition⟩) (c_L_is_condition : PySem.W.codeIn K cd_L_is_condition "_law_is_condition" = true) (k_L_is_condition : PySem.W.keepIn K (.ref f_L_is_condition) = true)
    (a_L_wrapped : PySem.W.nsIn K mainGlobals "_law_wrapped" = some (some (.ref f_L_wrapped))) (l_L_wrapped : K.lookup f_L_wrapped = some ⟨oc_L_wrapped, od_L_wrapped, .func (PySem.W.fnOf "_law_wrapped" "_law_wrapped" (defArgs s_L_wrapped) (defBody s_L_wrapped) (defScope s_L_wrapped) .none kV_L_wrapped dc_L_wrapped pm_L_wrapped an_L_wrapped cd_L_wrapped ct_L_wrapped), sl_L_wrapped⟩) (c_L_wrapped : PySem.W.codeIn K cd_L_wrapped "_law_wrapped" = true) (k_L_wrapped : PySem.W.keepIn K (.ref f_L_wrapped) = true)
    (a_L_fixed : PySem.W.nsIn K mainGlobals "_law_fixed" = some (some (.ref f_L_fixed))) (l_L_fixed : K.lookup f_L_fixed = some ⟨oc_L_fixed, od_L_fixed, .func (PySem.W.fnOf "_law_fixed" "_law_fixed" (defArgs s_L_fixed) (defBody s_L_fixed) (defScope s_L_fixed) .none kV_L_fixed dc_L_fixed pm_L_fixed an_L_fixed cd_L_fixed ct_L_fixed), sl_L_fixed⟩) (c_L_fixed : PySem.W.codeIn K cd_L_fixed "_law_fixed" = true) (k_L_fixed : PySem.W.keepIn K (.ref f_L_fixed) = true)
    (a_law : PySem.W.nsIn K mainGlobals "law" = some (some (.ref f_law))) (l_law : K.lookup f_law = some ⟨oc_law, od_law, .func (PySem.W.fnOf "law" "law" (defArgs s_law) (defBody s_law) (defScope s_law) .none kV_law dc_law pm_law an_law cd_law ct_law), sl_law⟩) (c_law : PySem.W.codeIn K cd_law "law" = true) (k_law : PySem.W.keepIn K (.ref f_law) = true)
    (z_isinstance : PySem.W.nsIn K mainGlobals "isinstance" = some none)
    (z_int : PySem.W.nsIn K mainGlobals "int" = some none)
    (z_bool : PySem.W.nsIn K mainGlobals "bool" = some none)
    (z_all : PySem.W.nsIn K mainGlobals "all" = some none)
    (z_str : PySem.W.nsIn K mainGlobals "str" = some none)
    (z_len : PySem.W.nsIn K mainGlobals "len" = some none)
    (z_sum : PySem.W.nsIn K mainGlobals "sum" = some none)
    (z_tuple : PySem.W.nsIn K mainGlobals "tuple" = some none)
    (z_abs : PySem.W.nsIn K mainGlobals "abs" = some none)
    (z_range : PySem.W.nsIn K mainGlobals "range" = some none)
    (z_max : PySem.W.nsIn K mainGlobals "max" = some none)
    (z_list : PySem.W.nsIn K mainGlobals "list" = some none)
    (z_min : PySem.W.nsIn K mainGlobals "min" = some none)
    (z_repr : PySem.W.nsIn K mainGlobals "repr" = some none)
    (w_MOST_NUMBER : PySem.W.nsIn K mainGlobals "MOST_NUMBER" = some (some u_MOST_NUMBER)) (r_MOST_NUMBER : chkD K 60 u_MOST_NUMBER k_MOST_NUMBER = true)
    (w_WORDS : PySem.W.nsIn K mainGlobals "WORDS" = some (some u_WORDS)) (r_WORDS : chkD K 60 u_WORDS k_WORDS = true)
    (w_MOST_LETTERS : PySem.W.nsIn K mainGlobals "MOST_LETTERS" = some (some u_MOST_LETTERS)) (r_MOST_LETTERS : chkD K 60 u_MOST_LETTERS k_MOST_LETTERS = true)
    (w_LETTERS : PySem.W.nsIn K mainGlobals "LETTERS" = some (some u_LETTERS)) (r_LETTERS : chkD K 60 u_LETTERS k_LETTERS = true)
    (w_PIECES : PySem.W.nsIn K mainGlobals "PIECES" = some (some (.ref dt_PIECES))) (at_PIECES : K.lookup dt_PIECES = some ⟨.type "dict", none, .dict et_PIECES nt_PIECES, #[]⟩) (li_PIECES : PySem.W.KeysLit w.params et_PIECES.toList) (lo_PIECES : (dt_PIECES == sysModules) = false) (r_PIECES : chkK et_PIECES.toList ["is", "has", "from", "to"] = true)
    (w_MOST_PARTS : PySem.W.nsIn K mainGlobals "MOST_PARTS" = some (some u_MOST_PARTS)) (r_MOST_PARTS : chkD K 60 u_MOST_PARTS k_MOST_PARTS = true)
    (w_MOST_DEEP : PySem.W.nsIn K mainGlobals "MOST_DEEP" = some (some u_MOST_DEEP)) (r_MOST_DEEP : chkD K 60 u_MOST_DEEP k_MOST_DEEP = true)
    (w_MOST_PIECES : PySem.W.nsIn K mainGlobals "MOST_PIECES" = some (some u_MOST_PIECES)) (r_MOST_PIECES : chkD K 60 u_MOST_PIECES k_MOST_PIECES = true) :
    ∃ fd : FuncData, (∀ (s : Shared) (v : Value), BindsTo s fd ⟨[v], []⟩ [("_law_script", v)]) ∧ ∀ base : Heap, K.In base → base.Ns mainGlobals mg → SysOk base → FnG ⟨l.prog, w, K, mg, base⟩ 19 fa fd ["_law_script"] spLaw := by
  have e := hfa.symm.trans (PySem.W.mg_of X G a_law)
  cases e
  refine ⟨PySem.W.fnOf "law" "law" (defArgs s_law) (defBody s_law) (defScope s_law) .none kV_law dc_law pm_law an_law cd_law ct_law, fun s v => .of_eq rfl, fun base _ _ hsy => ?_⟩
  have T : Txt ⟨l.prog, w, K, mg, base⟩ := ⟨hsy, ⟨⟨_, _, fun_mk (st := s_is_whole) l_is_whole c_is_whole k_is_whole, PySem.W.mg_of X G a_is_whole⟩⟩, ⟨⟨_, _, fun_mk (st := s_is_within) l_is_within c_is_within k_is_within, PySem.W.mg_of X G a_is_within⟩⟩, ⟨⟨_, _, fun_mk (st := s_is_number) l_is_number c_is_number k_is_number, PySem.W.mg_of X G a_is_number⟩⟩, ⟨⟨_, _, fun_mk (st := s_is_name) l_is_name c_is_name k_is_name, PySem.W.mg_of X G a_is_name⟩⟩, ⟨⟨_, _, fun_mk (st := s_is_piece) l_is_piece c_is_piece k_is_piece, PySem.W.mg_of X G a_is_piece⟩⟩, ⟨⟨_, _, fun_mk (st := s_pieces_of_parts) l_pieces_of_parts c_pieces_of_parts k_pieces_of_parts, PySem.W.mg_of X G a_pieces_of_parts⟩⟩, ⟨⟨_, _, fun_mk (st := s_pieces_in) l_pieces_in c_pieces_in k_pieces_in, PySem.W.mg_of X G a_pieces_in⟩⟩, ⟨⟨_, _, fun_mk (st := s_is_condition) l_is_condition c_is_condition k_is_condition, PySem.W.mg_of X G a_is_condition⟩⟩, ⟨⟨_, _, fun_mk (st := s_L_pot) l_L_pot c_L_pot k_L_pot, PySem.W.mg_of X G a_L_pot⟩⟩, ⟨⟨_, _, fun_mk (st := s_L_take) l_L_take c_L_take k_L_take, PySem.W.mg_of X G a_L_take⟩⟩, ⟨⟨_, _, fun_mk (st := s_L_words) l_L_words c_L_words k_L_words, PySem.W.mg_of X G a_L_words⟩⟩, ⟨⟨_, _, fun_mk (st := s_L_name) l_L_name c_L_name k_L_name, PySem.W.mg_of X G a_L_name⟩⟩, ⟨⟨_, _, fun_mk (st := s_L_is_name) l_L_is_name c_L_is_name k_L_is_name, PySem.W.mg_of X G a_L_is_name⟩⟩, ⟨⟨_, _, fun_mk (st := s_L_is_within) l_L_is_within c_L_is_within k_L_is_within, PySem.W.mg_of X G a_L_is_within⟩⟩, ⟨⟨_, _, fun_mk (st := s_L_odd) l_L_odd c_L_odd k_L_odd, PySem.W.mg_of X G a_L_odd⟩⟩, ⟨⟨_, _, fun_mk (st := s_L_bent) l_L_bent c_L_bent k_L_bent, PySem.W.mg_of X G a_L_bent⟩⟩, ⟨⟨_, _, fun_mk (st := s_L_names) l_L_names c_L_names k_L_names, PySem.W.mg_of X G a_L_names⟩⟩, ⟨⟨_, _, fun_mk (st := s_L_piece) l_L_piece c_L_piece k_L_piece, PySem.W.mg_of X G a_L_piece⟩⟩, ⟨⟨_, _, fun_mk (st := s_L_drawn) l_L_drawn c_L_drawn k_L_drawn, PySem.W.mg_of X G a_L_drawn⟩⟩, ⟨⟨_, _, fun_mk (st := s_L_condition) l_L_condition c_L_condition k_L_condition, PySem.W.mg_of X G a_L_condition⟩⟩, ⟨⟨_, _, fun_mk (st := s_L_pieces) l_L_pieces c_L_pieces k_L_pieces, PySem.W.mg_of X G a_L_pieces⟩⟩, ⟨⟨_, _, fun_mk (st := s_L_is_condition) l_L_is_condition c_L_is_condition k_L_is_condition, PySem.W.mg_of X G a_L_is_condition⟩⟩, ⟨⟨_, _, fun_mk (st := s_L_wrapped) l_L_wrapped c_L_wrapped k_L_wrapped, PySem.W.mg_of X G a_L_wrapped⟩⟩, ⟨⟨_, _, fun_mk (st := s_L_fixed) l_L_fixed c_L_fixed k_L_fixed, PySem.W.mg_of X G a_L_fixed⟩⟩, ⟨⟨_, _, fun_mk (st := s_law) l_law c_law k_law, PySem.W.mg_of X G a_law⟩⟩, PySem.W.mg_none_of X G z_isinstance, PySem.W.mg_none_of X G z_int, PySem.W.mg_none_of X G z_bool, PySem.W.mg_none_of X G z_all, PySem.W.mg_none_of X G z_str, PySem.W.mg_none_of X G z_len, PySem.W.mg_none_of X G z_sum, PySem.W.mg_none_of X G z_tuple, PySem.W.mg_none_of X G z_abs, PySem.W.mg_none_of X G z_range, PySem.W.mg_none_of X G z_max, PySem.W.mg_none_of X G z_list, PySem.W.mg_none_of X G z_min, PySem.W.mg_none_of X G z_repr, cst_of (PySem.W.mg_of X G w_MOST_NUMBER) r_MOST_NUMBER, cst_of (PySem.W.mg_of X G w_WORDS) r_WORDS, cst_of (PySem.W.mg_of X G w_MOST_LETTERS) r_MOST_LETTERS, cst_of (PySem.W.mg_of X G w_LETTERS) r_LETTERS, ⟨_, ktab_of (PySem.W.mg_of X G w_PIECES) at_PIECES li_PIECES lo_PIECES r_PIECES⟩, cst_of (PySem.W.mg_of X G w_MOST_PARTS) r_MOST_PARTS, cst_of (PySem.W.mg_of X G w_MOST_DEEP) r_MOST_DEEP, cst_of (PySem.W.mg_of X G w_MOST_PIECES) r_MOST_PIECES⟩
  exact law_ok T (fun_mk (st := s_law) l_law c_law k_law)
end Ms
open PySem PySem.W PyProof.Rows
set_option maxRecDepth 100000 in
set_option maxHeartbeats 0 in
theorem PySem.Challenge.cw_askround_k05_conditions_known_holds : PySem.Challenge.rw_askround_k05_conditions_known.Holds := by
  w_on; o_law; k_head; (case hw => w_witness2)
  k_fill
  refine Dl.law_walk (l := PySem.Challenge.rw_askround_k05_conditions_known) (k := 19) (x := "_law_script") rfl rfl ⟨rfl, by decide, by decide⟩ (by first | rfl | decide +kernel) (fun w h Y => PySem.W.kIn_of Y) ?F
  case F =>
    intro w mg fa h KX G hmg
    refine' Ms.all_mk KX G hmg ?a_is_whole ?l_is_whole ?c_is_whole ?k_is_whole ?a_is_within ?l_is_within ?c_is_within ?k_is_within ?a_is_number ?l_is_number ?c_is_number ?k_is_number ?a_is_name ?l_is_name ?c_is_name ?k_is_name ?a_is_piece ?l_is_piece ?c_is_piece ?k_is_piece ?a_pieces_of_parts ?l_pieces_of_parts ?c_pieces_of_parts ?k_pieces_of_parts ?a_pieces_in ?l_pieces_in ?c_pieces_in ?k_pieces_in ?a_is_condition ?l_is_condition ?c_is_condition ?k_is_condition ?a_L_pot ?l_L_pot ?c_L_pot ?k_L_pot ?a_L_take ?l_L_take ?c_L_take ?k_L_take ?a_L_words ?l_L_words ?c_L_words ?k_L_words ?a_L_name ?l_L_name ?c_L_name ?k_L_name ?a_L_is_name ?l_L_is_name ?c_L_is_name ?k_L_is_name ?a_L_is_within ?l_L_is_within ?c_L_is_within ?k_L_is_within ?a_L_odd ?l_L_odd ?c_L_odd ?k_L_odd ?a_L_bent ?l_L_bent ?c_L_bent ?k_L_bent ?a_L_names ?l_L_names ?c_L_names ?k_L_names ?a_L_piece ?l_L_piece ?c_L_piece ?k_L_piece ?a_L_drawn ?l_L_drawn ?c_L_drawn ?k_L_drawn ?a_L_condition ?l_L_condition ?c_L_condition ?k_L_condition ?a_L_pieces ?l_L_pieces ?c_L_pieces ?k_L_pieces ?a_L_is_condition ?l_L_is_condition ?c_L_is_condition ?k_L_is_condition ?a_L_wrapped ?l_L_wrapped ?c_L_wrapped ?k_L_wrapped ?a_L_fixed ?l_L_fixed ?c_L_fixed ?k_L_fixed ?a_law ?l_law ?c_law ?k_law ?z_isinstance ?z_int ?z_bool ?z_all ?z_str ?z_len ?z_sum ?z_tuple ?z_abs ?z_range ?z_max ?z_list ?z_min ?z_repr ?w_MOST_NUMBER ?r_MOST_NUMBER ?w_WORDS ?r_WORDS ?w_MOST_LETTERS ?r_MOST_LETTERS ?w_LETTERS ?r_LETTERS ?w_PIECES ?at_PIECES ?li_PIECES ?lo_PIECES ?r_PIECES ?w_MOST_PARTS ?r_MOST_PARTS ?w_MOST_DEEP ?r_MOST_DEEP ?w_MOST_PIECES ?r_MOST_PIECES
    (case a_is_whole => k_is); (case l_is_whole => k_is); (case c_is_whole => k_is); (case k_is_whole => k_is); (case a_is_within => k_is); (case l_is_within => k_is); (case c_is_within => k_is); (case k_is_within => k_is); (case a_is_number => k_is); (case l_is_number => k_is); (case c_is_number => k_is); (case k_is_number => k_is); (case a_is_name => k_is); (case l_is_name => k_is); (case c_is_name => k_is); (case k_is_name => k_is); (case a_is_piece => k_is); (case l_is_piece => k_is); (case c_is_piece => k_is); (case k_is_piece => k_is); (case a_pieces_of_parts => k_is); (case l_pieces_of_parts => k_is); (case c_pieces_of_parts => k_is); (case k_pieces_of_parts => k_is); (case a_pieces_in => k_is); (case l_pieces_in => k_is); (case c_pieces_in => k_is); (case k_pieces_in => k_is); (case a_is_condition => k_is); (case l_is_condition => k_is); (case c_is_condition => k_is); (case k_is_condition => k_is); (case a_L_pot => k_is); (case l_L_pot => k_is); (case c_L_pot => k_is); (case k_L_pot => k_is); (case a_L_take => k_is); (case l_L_take => k_is); (case c_L_take => k_is); (case k_L_take => k_is); (case a_L_words => k_is); (case l_L_words => k_is); (case c_L_words => k_is); (case k_L_words => k_is); (case a_L_name => k_is); (case l_L_name => k_is); (case c_L_name => k_is); (case k_L_name => k_is); (case a_L_is_name => k_is); (case l_L_is_name => k_is); (case c_L_is_name => k_is); (case k_L_is_name => k_is); (case a_L_is_within => k_is); (case l_L_is_within => k_is); (case c_L_is_within => k_is); (case k_L_is_within => k_is); (case a_L_odd => k_is); (case l_L_odd => k_is); (case c_L_odd => k_is); (case k_L_odd => k_is); (case a_L_bent => k_is); (case l_L_bent => k_is); (case c_L_bent => k_is); (case k_L_bent => k_is); (case a_L_names => k_is); (case l_L_names => k_is); (case c_L_names => k_is); (case k_L_names => k_is); (case a_L_piece => k_is); (case l_L_piece => k_is); (case c_L_piece => k_is); (case k_L_piece => k_is); (case a_L_drawn => k_is); (case l_L_drawn => k_is); (case c_L_drawn => k_is); (case k_L_drawn => k_is); (case a_L_condition => k_is); (case l_L_condition => k_is); (case c_L_condition => k_is); (case k_L_condition => k_is); (case a_L_pieces => k_is); (case l_L_pieces => k_is); (case c_L_pieces => k_is); (case k_L_pieces => k_is); (case a_L_is_condition => k_is); (case l_L_is_condition => k_is); (case c_L_is_condition => k_is); (case k_L_is_condition => k_is); (case a_L_wrapped => k_is); (case l_L_wrapped => k_is); (case c_L_wrapped => k_is); (case k_L_wrapped => k_is); (case a_L_fixed => k_is); (case l_L_fixed => k_is); (case c_L_fixed => k_is); (case k_L_fixed => k_is); (case a_law => k_is); (case l_law => k_is); (case c_law => k_is); (case k_law => k_is); (case z_isinstance => k_is); (case z_int => k_is); (case z_bool => k_is); (case z_all => k_is); (case z_str => k_is); (case z_len => k_is); (case z_sum => k_is); (case z_tuple => k_is); (case z_abs => k_is); (case z_range => k_is); (case z_max => k_is); (case z_list => k_is); (case z_min => k_is); (case z_repr => k_is); (case w_MOST_NUMBER => k_is); (case r_MOST_NUMBER => first | decide +kernel | kernel_rfl | exact rfl); (case w_WORDS => k_is); (case r_WORDS => first | decide +kernel | kernel_rfl | exact rfl); (case w_MOST_LETTERS => k_is); (case r_MOST_LETTERS => first | decide +kernel | kernel_rfl | exact rfl); (case w_LETTERS => k_is); (case r_LETTERS => first | decide +kernel | kernel_rfl | exact rfl); (case w_PIECES => k_is); (case at_PIECES => k_is); (case li_PIECES => (repeat (first | exact trivial | refine ⟨⟨_, _, rfl, rfl⟩, ?_⟩))); (case lo_PIECES => first | rfl | decide +kernel); (case r_PIECES => first | decide +kernel | kernel_rfl | exact rfl); (case w_MOST_PARTS => k_is); (case r_MOST_PARTS => first | decide +kernel | kernel_rfl | exact rfl); (case w_MOST_DEEP => k_is); (case r_MOST_DEEP => first | decide +kernel | kernel_rfl | exact rfl); (case w_MOST_PIECES => k_is); (case r_MOST_PIECES => first | decide +kernel | kernel_rfl | exact rfl)
