import PyProof.Rows.All
import Wide.All
import OpenK.AllK
import Wide.FinOn
import HandS.ForMost
import HandS.Wide
import HandS.Exc
import HandS.Lambda
import HandS.TupAny
import HandS.IsInst
import HandS.Zip
import HandS.Rev
import HandS.RevRange
import HandS.Codes
import HandS.Deep
import HandS.Strs
import HandS.Defaults
import HandS.Replace
import HandS.Style
import HandS.Flt
import HandS.FStr
import HandS.Text
import PyProof.StrOps2
import PyProof.FitsStr
import KE.GoesNew
import KE.GoesMore
import KE.GoesEnumKw
import HandS.TupMul
import HandS.Flow
import KE.IntTextLaws
import HandS.TupLe
import KE.KDictDisplayH
import HandS.SetFor
import HandS.WideBits
import HandS.SetKeys
import HandS.SortKw
import PyProof.MinMaxWalk
import PyProof.WalkInts
import HandS.Walk
import HandS.Set
import KE.KDictPairs
import HandS.WordsDict
import HandS.More
import PySem.Challenge.RW_heaploom_k07_rows_followed
set_option Elab.async false
set_option linter.all false
set_option maxRecDepth 100000
set_option maxHeartbeats 4000000
set_option autoImplicit false
/-! Mir: plain data, a memory of cells, mirrors of Python code, and the rules that tie them to the hand layer. -/
namespace Mir
open PySem PySem.Spec PyProof.Rows L2
abbrev SL := L2.St

/-- an equation that is not told to be one by reckoning -/
theorem nr {α : Sort _} {a b : α} (h : a = b) : a = b := h
/-! ### data -/
inductive D where
  | non | bl (b : Bool) | int (i : Int) | str (x : Str) | tup (ds : List D) | lst (ds : List D) | scr (ds : List D) | ref (i : Nat) | fn (x : Str)
inductive Cell where
  | lst (ds : List D) | dK (kvs : List (Key × D)) | dT (kvs : List (List Int × D)) | ins (c : Str) (fs : List (Str × D)) | dKz (kvs : List (Key × D)) | dTz (kvs : List (List Int × D)) | exc (c : Str) (fs : List (Str × D)) | tab (x q : Str) | dX (hs : Str → Int) (kvs : List (List Key × D))
abbrev Mem := List Cell
abbrev Env' := List (Option D)
structure Exn where
  cls : Str
  fs : List (Str × D)
inductive R (α : Type) where
  | ok (a : α) (m : Mem) | exc (x : Exn) (m : Mem) | stk
def R.bind {α β : Type} (r : R α) (f : α → Mem → R β) : R β := match r with
  | .ok a m => f a m
  | .exc x m => .exc x m
  | .stk => .stk
@[simp] theorem bind_ok {α β : Type} (a : α) (m : Mem) (f : α → Mem → R β) : (R.ok a m).bind f = f a m := nr rfl
@[simp] theorem bind_exc {α β : Type} (x : Exn) (m : Mem) (f : α → Mem → R β) : (R.exc x m : R α).bind f = .exc x m := nr rfl
@[simp] theorem bind_stk {α β : Type} (f : α → Mem → R β) : (R.stk : R α).bind f = .stk := nr rfl

/-- the world: the cells' addresses; scratch addresses -/
structure Wd where
  i : List Addr
  z : List Addr

/-- an immediate list -/
def LIm (K : PySem.W.Frag) (W : Wd) (H : Hp) (a : Addr) (xs : List V) : Prop :=
  (Rd H a (.lst xs) ∧ a ∉ W.i ∧ a ∉ W.z) ∨
    ∃ (o : Obj) (its : Array Value) (n : Nat), K.lookup a = some o ∧ o.cls = .type "list" ∧ o.dict = none ∧ o.data = .seq its n ∧ its.size ≤ sizeLine ∧ Vals xs its.toList
theorem LIm.sq {K : PySem.W.Frag} {W : Wd} {H : Hp} {a : Addr} {xs : List V} (h : LIm K W H a xs) : SqL K H a xs := by
  rcases h with h | h
  · exact .inl h.1
  · exact .inr h

/-- a tuple that is read; it has no dict of its own -/
def SqF (K : PySem.W.Frag) (H : Hp) (a : Addr) (xs : List V) : Prop :=
  (∃ o, H a = some (.frz o (.tup xs)) ∧ o.dict = none ∧ o.cls = .type "tuple") ∨
    ∃ (o : Obj) (its : Array Value) (n : Nat), K.lookup a = some o ∧ o.cls = .type "tuple" ∧ o.dict = none ∧ o.data = .seq its n ∧ its.size ≤ sizeLine ∧ Vals xs its.toList
theorem SqF.t {K : PySem.W.Frag} {H : Hp} {a : Addr} {xs : List V} (h : SqF K H a xs) : SqT K H a xs := by
  rcases h with ⟨o, h, _⟩ | ⟨o, its, n, h1, h2, _, h3⟩
  · exact .inl (.inr ⟨o, h⟩)
  · exact .inr ⟨o, its, n, h1, h2, h3⟩

mutual
def Rep (K : PySem.W.Frag) (W : Wd) (H : Hp) : D → V → Prop
  | .non, v => v = .non
  | .bl b, v => v = .bl b
  | .int i, v => v = .int i
  | .str x, v => v = .str x
  | .tup ds, v => ∃ a vs, v = .ref a ∧ SqF K H a vs ∧ Reps K W H ds vs
  | .lst ds, v => ∃ a vs, v = .ref a ∧ (H a = some (.lst vs) ∧ a ∉ W.i ∧ a ∉ W.z) ∧ Reps K W H ds vs
  | .scr ds, v => ∃ a vs, v = .ref a ∧ LIm K W H a vs ∧ Reps K W H ds vs
  | .ref i, v => ∃ a, v = .ref a ∧ W.i[i]? = some a
  | .fn x, v => ∃ f, v = .ref f ∧ PySem.W.nsIn K mainGlobals x = some (some (.ref f))
def Reps (K : PySem.W.Frag) (W : Wd) (H : Hp) : List D → List V → Prop
  | [], vs => vs = []
  | d :: ds, vs => ∃ v r, vs = v :: r ∧ Rep K W H d v ∧ Reps K W H ds r
end

def immut : HO → Bool
  | .tup _ => true
  | .frz _ _ => true
  | _ => false

structure Ext (W : Wd) (H : Hp) (W' : Wd) (H' : Hp) : Prop where
  z : W'.z = W.z
  pre : ∃ t, W'.i = W.i ++ t
  new : ∀ a ∈ W'.i, a ∉ W.i → H a = none ∧ a ∉ W.z
  keep : ∀ a o, H a = some o → (immut o = true ∨ a ∉ W.i) → H' a = some o
theorem Ext.refl (W : Wd) (H : Hp) : Ext W H W H := ⟨rfl, ⟨[], by simp⟩, fun a h n => absurd h n, fun _ _ h _ => h⟩
theorem Ext.sub {W W' : Wd} {H H' : Hp} (e : Ext W H W' H') {a : Addr} (h : a ∈ W.i) : a ∈ W'.i := by
  obtain ⟨t, e⟩ := e.pre
  rw [e]
  exact List.mem_append_left _ h
theorem Ext.trans {W W1 W2 : Wd} {H H1 H2 : Hp} (a : Ext W H W1 H1) (b : Ext W1 H1 W2 H2) : Ext W H W2 H2 := by
  obtain ⟨t1, e1⟩ := a.pre
  obtain ⟨t2, e2⟩ := b.pre
  refine ⟨b.z.trans a.z, ⟨t1 ++ t2, by rw [e2, e1, List.append_assoc]⟩, fun x hx hn => ?_, fun x o h k => ?_⟩
  · by_cases h1 : x ∈ W1.i
    · exact a.new x h1 hn
    · have q := b.new x hx h1
      have hz : x ∉ W.z := by rw [← a.z]; exact q.2
      refine ⟨?_, hz⟩
      cases hh : H x with
      | none => rfl
      | some o =>
        have := a.keep x o hh (.inr hn)
        rw [q.1] at this
        cases this
  · have h1 := a.keep x o h k
    refine b.keep x o h1 ?_
    rcases k with k | k1
    · exact .inl k
    · refine .inr fun hx => ?_
      have := (a.new x hx k1).1
      rw [this] at h
      cases h
theorem Ext.sqF {K : PySem.W.Frag} {W W' : Wd} {H H' : Hp} (e : Ext W H W' H') {a : Addr} {vs : List V} (h : SqF K H a vs) : SqF K H' a vs := by
  rcases h with ⟨o, h, k⟩ | h
  · exact .inl ⟨o, e.keep _ _ h (.inl rfl), k⟩
  · exact .inr h
theorem Ext.lim {K : PySem.W.Frag} {W W' : Wd} {H H' : Hp} (e : Ext W H W' H') {a : Addr} {vs : List V} (h : LIm K W H a vs) : LIm K W' H' a vs := by
  rcases h with ⟨h, k1, k2⟩ | h
  · have hs : ∃ o, H a = some o := by
      rcases h with h | ⟨o, h⟩
      · exact ⟨_, h⟩
      · exact ⟨_, h⟩
    obtain ⟨o, ho⟩ := hs
    refine .inl ⟨?_, fun hx => ?_, by rw [e.z]; exact k2⟩
    · rcases h with h | ⟨o, h⟩
      · exact .inl (e.keep _ _ h (.inr k1))
      · exact .inr ⟨o, e.keep _ _ h (.inl rfl)⟩
    · have := (e.new a hx k1).1
      rw [this] at ho
      cases ho
  · exact .inr h
theorem Ext.lims {W W' : Wd} {H H' : Hp} (e : Ext W H W' H') {a : Addr} {o : HO} (h : H a = some o ∧ a ∉ W.i ∧ a ∉ W.z) : H' a = some o ∧ a ∉ W'.i ∧ a ∉ W'.z :=
  ⟨e.keep a o h.1 (.inr h.2.1), (fun hx => by
    have := (e.new a hx h.2.1).1
    rw [h.1] at this
    cases this), by rw [e.z]; exact h.2.2⟩
mutual
theorem Rep.ext {K : PySem.W.Frag} {W W' : Wd} {H H' : Hp} (e : Ext W H W' H') : ∀ {d : D} {v : V}, Rep K W H d v → Rep K W' H' d v
  | .non, v, h => by unfold Rep at h ⊢; exact h
  | .bl b, v, h => by unfold Rep at h ⊢; exact h
  | .int i, v, h => by unfold Rep at h ⊢; exact h
  | .str x, v, h => by unfold Rep at h ⊢; exact h
  | .tup ds, v, h => by
    unfold Rep at h ⊢
    obtain ⟨a, vs, e1, e2, e3⟩ := h
    exact ⟨a, vs, e1, e.sqF e2, Reps.ext e e3⟩
  | .lst ds, v, h => by
    unfold Rep at h ⊢
    obtain ⟨a, vs, e1, e2, e3⟩ := h
    exact ⟨a, vs, e1, e.lims e2, Reps.ext e e3⟩
  | .scr ds, v, h => by
    unfold Rep at h ⊢
    obtain ⟨a, vs, e1, e2, e3⟩ := h
    exact ⟨a, vs, e1, e.lim e2, Reps.ext e e3⟩
  | .ref i, v, h => by
    unfold Rep at h ⊢
    obtain ⟨a, e1, e2⟩ := h
    obtain ⟨t, et⟩ := e.pre
    refine ⟨a, e1, ?_⟩
    rw [et, List.getElem?_append_left (List.getElem?_eq_some_iff.mp e2).1]
    exact e2
  | .fn x, v, h => by unfold Rep at h ⊢; exact h
theorem Reps.ext {K : PySem.W.Frag} {W W' : Wd} {H H' : Hp} (e : Ext W H W' H') : ∀ {ds : List D} {vs : List V}, Reps K W H ds vs → Reps K W' H' ds vs
  | [], vs, h => by unfold Reps at h ⊢; exact h
  | d :: ds, vs, h => by
    unfold Reps at h ⊢
    obtain ⟨v, r, e1, e2, e3⟩ := h
    exact ⟨v, r, e1, Rep.ext e e2, Reps.ext e e3⟩
end
section
variable {K : PySem.W.Frag} {W : Wd} {H : Hp}
theorem rep_non : Rep K W H .non .non := by unfold Rep; rfl
theorem rep_bl {b : Bool} : Rep K W H (.bl b) (.bl b) := by unfold Rep; rfl
theorem rep_int {i : Int} : Rep K W H (.int i) (.int i) := by unfold Rep; rfl
theorem rep_str {x : Str} : Rep K W H (.str x) (.str x) := by unfold Rep; rfl
theorem reps_nil : Reps K W H [] [] := by unfold Reps; rfl
theorem reps_cons {d : D} {ds : List D} {v : V} {vs : List V} (h : Rep K W H d v) (t : Reps K W H ds vs) : Reps K W H (d :: ds) (v :: vs) := by unfold Reps; exact ⟨v, vs, rfl, h, t⟩
theorem rep_tup {a : Addr} {vs : List V} {ds : List D} (h : SqF K H a vs) (r : Reps K W H ds vs) : Rep K W H (.tup ds) (.ref a) := by unfold Rep; exact ⟨a, vs, rfl, h, r⟩
theorem rep_scr {a : Addr} {vs : List V} {ds : List D} (h : LIm K W H a vs) (r : Reps K W H ds vs) : Rep K W H (.scr ds) (.ref a) := by unfold Rep; exact ⟨a, vs, rfl, h, r⟩
theorem Rep.scr' {ds : List D} {v : V} (h : Rep K W H (.scr ds) v) : ∃ a vs, v = .ref a ∧ LIm K W H a vs ∧ Reps K W H ds vs := by unfold Rep at h; exact h
theorem rep_lst {a : Addr} {vs : List V} {ds : List D} (h : H a = some (.lst vs) ∧ a ∉ W.i ∧ a ∉ W.z) (r : Reps K W H ds vs) : Rep K W H (.lst ds) (.ref a) := by unfold Rep; exact ⟨a, vs, rfl, h, r⟩
theorem rep_ref {a : Addr} {i : Nat} (h : W.i[i]? = some a) : Rep K W H (.ref i) (.ref a) := by unfold Rep; exact ⟨a, rfl, h⟩
theorem Rep.non' {v : V} (h : Rep K W H .non v) : v = .non := by unfold Rep at h; exact h
theorem Rep.bl' {b : Bool} {v : V} (h : Rep K W H (.bl b) v) : v = .bl b := by unfold Rep at h; exact h
theorem Rep.int' {i : Int} {v : V} (h : Rep K W H (.int i) v) : v = .int i := by unfold Rep at h; exact h
theorem Rep.str' {x : Str} {v : V} (h : Rep K W H (.str x) v) : v = .str x := by unfold Rep at h; exact h
theorem Rep.tupF' {ds : List D} {v : V} (h : Rep K W H (.tup ds) v) : ∃ a vs, v = .ref a ∧ SqF K H a vs ∧ Reps K W H ds vs := by unfold Rep at h; exact h
theorem Rep.tup' {ds : List D} {v : V} (h : Rep K W H (.tup ds) v) : ∃ a vs, v = .ref a ∧ SqT K H a vs ∧ Reps K W H ds vs := let ⟨a, vs, e1, e2, e3⟩ := h.tupF'; ⟨a, vs, e1, e2.t, e3⟩
theorem Rep.lst' {ds : List D} {v : V} (h : Rep K W H (.lst ds) v) : ∃ a vs, v = .ref a ∧ (H a = some (.lst vs) ∧ a ∉ W.i ∧ a ∉ W.z) ∧ Reps K W H ds vs := by unfold Rep at h; exact h
theorem Rep.ref' {i : Nat} {v : V} (h : Rep K W H (.ref i) v) : ∃ a, v = .ref a ∧ W.i[i]? = some a := by unfold Rep at h; exact h
theorem Rep.fn' {x : Str} {v : V} (h : Rep K W H (.fn x) v) : ∃ f, v = .ref f ∧ PySem.W.nsIn K mainGlobals x = some (some (.ref f)) := by unfold Rep at h; exact h
theorem Reps.nil' {vs : List V} (h : Reps K W H [] vs) : vs = [] := by unfold Reps at h; exact h
theorem Reps.cons' {d : D} {ds : List D} {vs : List V} (h : Reps K W H (d :: ds) vs) : ∃ v r, vs = v :: r ∧ Rep K W H d v ∧ Reps K W H ds r := by unfold Reps at h; exact h
theorem Reps.length : ∀ {ds : List D} {vs : List V}, Reps K W H ds vs → vs.length = ds.length
  | [], vs, h => by rw [h.nil']; rfl
  | d :: ds, vs, h => by
    obtain ⟨v, r, rfl, _, h3⟩ := h.cons'
    rw [List.length_cons, List.length_cons, Reps.length h3]
theorem Reps.get : ∀ {ds : List D} {vs : List V} {i : Nat} {d : D}, Reps K W H ds vs → ds[i]? = some d → ∃ v, vs[i]? = some v ∧ Rep K W H d v
  | [], vs, i, d, h, e => by simp at e
  | x :: ds, vs, 0, d, h, e => by
    obtain ⟨v, r, rfl, h2, h3⟩ := h.cons'
    simp at e
    subst e
    exact ⟨v, rfl, h2⟩
  | x :: ds, vs, i + 1, d, h, e => by
    obtain ⟨v, r, rfl, h2, h3⟩ := h.cons'
    obtain ⟨u, e1, e2⟩ := Reps.get (i := i) h3 (by simpa using e)
    exact ⟨u, by simpa using e1, e2⟩
theorem Reps.append : ∀ {ds es : List D} {vs us : List V}, Reps K W H ds vs → Reps K W H es us → Reps K W H (ds ++ es) (vs ++ us)
  | [], es, vs, us, h, k => by rw [h.nil']; exact k
  | d :: ds, es, vs, us, h, k => by
    obtain ⟨v, r, rfl, h2, h3⟩ := h.cons'
    exact reps_cons h2 (Reps.append h3 k)
theorem reps_one {d : D} {v : V} (h : Rep K W H d v) : Reps K W H [d] [v] := reps_cons h reps_nil
theorem Reps.take : ∀ {ds : List D} {vs : List V} (n : Nat), Reps K W H ds vs → Reps K W H (ds.take n) (vs.take n)
  | _, _, 0, _ => by simpa using reps_nil
  | [], vs, n + 1, h => by rw [h.nil']; simpa using reps_nil
  | d :: ds, vs, n + 1, h => by
    obtain ⟨v, r, rfl, h2, h3⟩ := h.cons'
    exact reps_cons h2 (Reps.take n h3)
theorem Reps.drop : ∀ {ds : List D} {vs : List V} (n : Nat), Reps K W H ds vs → Reps K W H (ds.drop n) (vs.drop n)
  | _, _, 0, h => by simpa using h
  | [], vs, n + 1, h => by rw [h.nil']; simpa using reps_nil
  | d :: ds, vs, n + 1, h => by
    obtain ⟨v, r, rfl, h2, h3⟩ := h.cons'
    exact Reps.drop n h3
theorem Reps.set : ∀ {ds : List D} {vs : List V} {d : D} {v : V} (n : Nat), Reps K W H ds vs → Rep K W H d v → Reps K W H (ds.set n d) (vs.set n v)
  | [], vs, d, v, n, h, k => by rw [h.nil']; simpa using reps_nil
  | x :: ds, vs, d, v, 0, h, k => by
    obtain ⟨u, r, rfl, h2, h3⟩ := h.cons'
    exact reps_cons k h3
  | x :: ds, vs, d, v, n + 1, h, k => by
    obtain ⟨u, r, rfl, h2, h3⟩ := h.cons'
    exact reps_cons h2 (Reps.set n h3 k)
theorem reps_ints : ∀ ns : List Int, Reps K W H (ns.map D.int) (ns.map V.int)
  | [] => reps_nil
  | n :: ns => reps_cons rep_int (reps_ints ns)
end

/-- a dict whose keys are tuples of ints, by its entries: the keys, where their tuples stand, the values -/
def entI (x : List Int × Addr × Value) : DictEntry := ⟨reduceHash (Builtin.Tuple.tupleHashOf (x.1.map hashInt)), .ref x.2.1, x.2.2⟩
def dictI (a : Addr) (kvs : List (List Int × Addr × V)) : HO := .ext fun h => kvs.length ≤ sizeLine ∧ (a == sysModules) = false ∧ ∃ xs : List (List Int × Addr × Value),
  Paired (fun (p : List Int × Addr × V) (q : List Int × Addr × Value) => p.1 = q.1 ∧ p.2.1 = q.2.1 ∧ RelV p.2.2 q.2.2) kvs xs ∧
  ∃ o es ep, h.get? a = some o ∧ o.ExactDict ∧ o.data = .dict es ep ∧ es.toList = xs.map entI ∧ (xs.map (·.1)).Nodup
/-- a dict whose keys are tuples of ints and texts, by its entries; hs: the hash of a text -/
def hashX (hs : Str → Int) : Key → Int
  | .inl i => hashInt i
  | .inr x => hs x
def entX (hs : Str → Int) (x : List Key × Addr × Value) : DictEntry := ⟨reduceHash (Builtin.Tuple.tupleHashOf (x.1.map (hashX hs))), .ref x.2.1, x.2.2⟩
def dictX (hs : Str → Int) (a : Addr) (kvs : List (List Key × Addr × V)) : HO := .ext fun h => kvs.length ≤ sizeLine ∧ (a == sysModules) = false ∧ ∃ xs : List (List Key × Addr × Value),
  Paired (fun (p : List Key × Addr × V) (q : List Key × Addr × Value) => p.1 = q.1 ∧ p.2.1 = q.2.1 ∧ RelV p.2.2 q.2.2) kvs xs ∧
  ∃ o es ep, h.get? a = some o ∧ o.ExactDict ∧ o.data = .dict es ep ∧ es.toList = xs.map (entX hs) ∧ (xs.map (·.1)).Nodup
/-- a caught exception at a, of the class C, its dict at o -/
def ExH (C : Value) (o : Option Addr) (a : Addr) : HO := .ext fun h => ∃ (oe : Obj) (vs : Array Value), h.get? a = some oe ∧ Zc C o oe ∧ oe.data = .fields vs
/-- the fields of an exception -/
def XFs (K : PySem.W.Frag) (W : Wd) (H : Hp) (fs : List (Str × D)) (o : Option Addr) : Prop :=
  (fs = [] ∧ o = none) ∨ ∃ d gs, o = some d ∧ (H d = some (.xd gs) ∧ d ∉ W.i ∧ d ∉ W.z) ∧ gs.map (·.1) = fs.map (·.1) ∧ Reps K W H (fs.map (·.2)) (gs.map (·.2))
theorem XFs.ext {K : PySem.W.Frag} {W W' : Wd} {H H' : Hp} {fs : List (Str × D)} {o : Option Addr} (e : Ext W H W' H') (h : XFs K W H fs o) : XFs K W' H' fs o := by
  rcases h with h | ⟨d, gs, e1, e2, e3, e4⟩
  · exact .inl h
  · exact .inr ⟨d, gs, e1, e.lims e2, e3, e4.ext e⟩
/-- the table of code objects of the def x is at a -/
def TabK (K : PySem.W.Frag) (x : Str) (a : Addr) : Prop := ∃ (f c : Addr) (fo oc : Obj) (fd : FuncData) (us : Array Value), PySem.W.nsIn K mainGlobals x = some (some (.ref f)) ∧ K.lookup f = some fo ∧ fo.data = .func fd ∧ fd.code = .ref c ∧ K.lookup c = some oc ∧ oc.data = .fields us ∧ us[11]? = some (.ref a)
/-- .. its code objects all bear the name q -/
def TabAt (K : PySem.W.Frag) (W : Wd) (H : Hp) (x q : Str) (a : Addr) : Prop := ∃ ps : Array Value, H a = some (.tbl ps) ∧ TriplesOk ps.toList ∧ TabK K x a ∧
  ∀ (pos : Pos) (cv : Value), codeAmong pos ps.toList = some cv → ∃ c, cv = .ref c ∧ (H c = some (LamX.CodeO c q) ∧ c ∉ W.i ∧ c ∉ W.z)
/-! ### the memory -/
section
variable (K : PySem.W.Frag) (mg : Str → Option Value)
def CellOk (W : Wd) (H : Hp) (a : Addr) : Cell → Prop
  | .lst ds => ∃ vs, H a = some (.lst vs) ∧ Reps K W H ds vs
  | .dK kvs => ∃ kvs', H a = some (.dK kvs') ∧ kvs'.map (·.1) = kvs.map (·.1) ∧ Reps K W H (kvs.map (·.2)) (kvs'.map (·.2))
  | .dT kvs => ∃ kvs', H a = some (dictI a kvs') ∧ kvs'.map (·.1) = kvs.map (·.1) ∧ (∀ x ∈ kvs', SqF K H x.2.1 (x.1.map V.int)) ∧ Reps K W H (kvs.map (·.2)) (kvs'.map (·.2.2))
  | .ins c fs => ∃ C dx fs', mg c = some (.ref C) ∧ H a = some (.ins C dx fs') ∧ fs'.map (·.1) = fs.map (·.1) ∧ Reps K W H (fs.map (·.2)) (fs'.map (·.2))
  | .dKz kvs => ∃ o kvs', H a = some (.frz o (.dK kvs')) ∧ kvs'.map (·.1) = kvs.map (·.1) ∧ Reps K W H (kvs.map (·.2)) (kvs'.map (·.2))
  | .dTz kvs => ∃ o kvs', H a = some (.frz o (dictI a kvs')) ∧ kvs'.map (·.1) = kvs.map (·.1) ∧ (∀ x ∈ kvs', SqF K H x.2.1 (x.1.map V.int)) ∧ Reps K W H (kvs.map (·.2)) (kvs'.map (·.2.2))
  | .exc c fs => ∃ C o, mg c = some C ∧ H a = some (ExH C o a) ∧ XFs K W H fs o
  | .tab x q => TabAt K W H x q a
  | .dX hs kvs => ∃ kvs', H a = some (dictX hs a kvs') ∧ kvs'.map (·.1) = kvs.map (·.1) ∧ (∀ x ∈ kvs', SqF K H x.2.1 (x.1.map kV)) ∧ Reps K W H (kvs.map (·.2)) (kvs'.map (·.2.2))
structure Sim (W : Wd) (H : Hp) (m : Mem) : Prop where
  nd : W.i.Nodup
  len : W.i.length = m.length
  cell : ∀ (i : Nat) (a : Addr) (c : Cell), W.i[i]? = some a → m[i]? = some c → CellOk K mg W H a c
  sep : ∀ a ∈ W.i, a ∉ W.z
  zs : ∀ a ∈ W.z, ∃ o, H a = some o
theorem upd_some {H : Hp} {p a : Addr} {o : HO} (h : ∃ u, H a = some u) : ∃ u, upd H p o a = some u := by
  by_cases e : a = p
  · subst e; exact ⟨_, upd_same⟩
  · rw [upd_ne e]; exact h
def REnv (W : Wd) (H : Hp) (η : Env') (σ : SL) : Prop := η.length = σ.length ∧ ∀ (i : Nat) (d : D), η[i]? = some (some d) → ∃ v, σ[i]? = some (some v) ∧ Rep K W H d v
end
section
variable {K : PySem.W.Frag} {mg : Str → Option Value} {W W' : Wd} {H H' : Hp} {m : Mem}
theorem CellOk.mut {a : Addr} {c : Cell} (h : CellOk K mg W H a c) : ∃ o, H a = some o ∧ True := by
  cases c with
  | lst ds => obtain ⟨vs, e, _⟩ := h; exact ⟨_, e, trivial⟩
  | dK kvs => obtain ⟨vs, e, _⟩ := h; exact ⟨_, e, trivial⟩
  | dT kvs => obtain ⟨vs, e, _⟩ := h; exact ⟨_, e, trivial⟩
  | ins c fs => obtain ⟨_, _, _, _, e, _⟩ := h; exact ⟨_, e, trivial⟩
  | dKz kvs => obtain ⟨_, _, e, _⟩ := h; exact ⟨_, e, trivial⟩
  | dTz kvs => obtain ⟨_, _, e, _⟩ := h; exact ⟨_, e, trivial⟩
  | exc c fs => obtain ⟨_, _, _, e, _⟩ := h; exact ⟨_, e, trivial⟩
  | tab x q => obtain ⟨_, e, _⟩ := h; exact ⟨_, e, trivial⟩
  | dX hs kvs => obtain ⟨vs, e, _⟩ := h; exact ⟨_, e, trivial⟩
theorem Sim.at (s : Sim K mg W H m) {a : Addr} (h : a ∈ W.i) : ∃ o, H a = some o ∧ True := by
  obtain ⟨i, hi, e⟩ := List.mem_iff_getElem.mp h
  have hm : i < m.length := by rw [← s.len]; exact hi
  exact (s.cell i a m[i] (by rw [← e]; exact List.getElem?_eq_getElem hi) (List.getElem?_eq_getElem hm)).mut
/-- what is true of the cells stays, where the heap is the same at a -/
theorem CellOk.ext {a : Addr} {c : Cell} (e : Ext W H W' H') (ha : H' a = H a) (h : CellOk K mg W H a c) : CellOk K mg W' H' a c := by
  cases c with
  | lst ds => obtain ⟨vs, e1, e2⟩ := h; exact ⟨vs, ha.trans e1, e2.ext e⟩
  | dK kvs => obtain ⟨vs, e1, e2, e3⟩ := h; exact ⟨vs, ha.trans e1, e2, e3.ext e⟩
  | dT kvs => obtain ⟨vs, e1, e2, e3, e4⟩ := h; exact ⟨vs, ha.trans e1, e2, fun x hx => e.sqF (e3 x hx), e4.ext e⟩
  | ins c fs => obtain ⟨C, dx, fs', e0, e1, e2, e3⟩ := h; exact ⟨C, dx, fs', e0, ha.trans e1, e2, e3.ext e⟩
  | dKz kvs => obtain ⟨o, vs, e1, e2, e3⟩ := h; exact ⟨o, vs, ha.trans e1, e2, e3.ext e⟩
  | dTz kvs => obtain ⟨o, vs, e1, e2, e3, e4⟩ := h; exact ⟨o, vs, ha.trans e1, e2, fun x hx => e.sqF (e3 x hx), e4.ext e⟩
  | exc c fs => obtain ⟨C, o, e0, e1, e2⟩ := h; exact ⟨C, o, e0, ha.trans e1, e2.ext e⟩
  | tab x q => obtain ⟨ps, e1, e2, e3, e4⟩ := h; exact ⟨ps, ha.trans e1, e2, e3, fun pos cv hc => let ⟨c, z1, z2⟩ := e4 pos cv hc; ⟨c, z1, e.lims z2⟩⟩
  | dX hs kvs => obtain ⟨vs, e1, e2, e3, e4⟩ := h; exact ⟨vs, ha.trans e1, e2, fun x hx => e.sqF (e3 x hx), e4.ext e⟩
/-- a fresh object beside the cells -/
theorem Ext.fresh {p : Addr} {o : HO} (h : H p = none) : Ext W H W (upd H p o) :=
  ⟨rfl, ⟨[], by simp⟩, fun a h n => absurd h n, fun a u e _ => by rw [upd_ne (ne_of_none e h)]; exact e⟩
theorem Sim.fresh (s : Sim K mg W H m) {p : Addr} {o : HO} (h : H p = none) : Sim K mg W (upd H p o) m :=
  ⟨s.nd, s.len, fun i a c e1 e2 => (s.cell i a c e1 e2).ext (Ext.fresh h) (by
    obtain ⟨u, e, _⟩ := (s.cell i a c e1 e2).mut
    exact upd_ne (ne_of_none e h)), s.sep, fun a ha => upd_some (s.zs a ha)⟩
theorem Sim.nin (s : Sim K mg W H m) {p : Addr} (h : H p = none) : p ∉ W.i := fun hp => by
  obtain ⟨o, e, _⟩ := s.at hp
  rw [h] at e
  cases e
theorem Sim.ninz (s : Sim K mg W H m) {p : Addr} (h : H p = none) : p ∉ W.z := fun hp => by
  obtain ⟨o, e⟩ := s.zs p hp
  rw [h] at e
  cases e
/-- a new cell -/
def Wd.add (W : Wd) (p : Addr) : Wd := ⟨W.i ++ [p], W.z⟩
theorem Ext.alloc {p : Addr} {o : HO} (h : H p = none) (hz : p ∉ W.z) : Ext W H (W.add p) (upd H p o) :=
  ⟨rfl, ⟨[p], rfl⟩, fun a h' n => by
    have : a = p := by
      rcases List.mem_append.mp h' with q | q
      · exact absurd q n
      · simpa using q
    subst this
    exact ⟨h, hz⟩, fun a u e _ => by rw [upd_ne (ne_of_none e h)]; exact e⟩
theorem Sim.alloc (s : Sim K mg W H m) {p : Addr} {o : HO} {c : Cell} (h : H p = none) (hc : CellOk K mg (W.add p) (upd H p o) p c) : Sim K mg (W.add p) (upd H p o) (m ++ [c]) := by
  have hz := s.ninz h
  refine ⟨?_, ?_, fun i a c' e1 e2 => ?_, fun a ha => ?_, fun a ha => upd_some (s.zs a ha)⟩
  · refine List.nodup_append.mpr ⟨s.nd, by simp, fun a ha b hb => ?_⟩
    rintro rfl
    have : a = p := by simpa using hb
    subst this
    exact s.nin h ha
  · show (W.i ++ [p]).length = _
    rw [List.length_append, List.length_append, s.len]
    rfl
  · have e1 : (W.i ++ [p])[i]? = some a := e1
    by_cases hi : i < W.i.length
    · rw [List.getElem?_append_left hi] at e1
      rw [List.getElem?_append_left (by rw [← s.len]; exact hi)] at e2
      have k := s.cell i a c' e1 e2
      obtain ⟨u, e, _⟩ := k.mut
      exact k.ext (Ext.alloc h hz) (upd_ne (ne_of_none e h))
    · have hi' : i = W.i.length := by
        have := (List.getElem?_eq_some_iff.mp e1).1
        rw [List.length_append] at this
        simp at this
        omega
      subst hi'
      rw [List.getElem?_append_right (Nat.le_refl _), Nat.sub_self] at e1
      rw [s.len, List.getElem?_append_right (Nat.le_refl _), Nat.sub_self] at e2
      simp at e1 e2
      subst e1
      subst e2
      exact hc
  · rcases List.mem_append.mp ha with q | q
    · exact s.sep a q
    · have : a = p := by simpa using q
      subst this
      exact hz
/-- a cell is changed -/
theorem Ext.mut {a : Addr} {o o' : HO} (ha : a ∈ W.i) (h : H a = some o) (hi : immut o = false) : Ext W H W (upd H a o') :=
  ⟨rfl, ⟨[], by simp⟩, fun a h n => absurd h n, fun b u e k => by
    have : b ≠ a := by
      rintro rfl
      rcases k with k | k
      · rw [h] at e
        cases e
        rw [hi] at k
        cases k
      · exact k ha
    rw [upd_ne this]
    exact e⟩
theorem Sim.mut (s : Sim K mg W H m) {i : Nat} {a : Addr} {o' : HO} {c : Cell} (hi : W.i[i]? = some a) (hc : CellOk K mg W (upd H a o') a c) (hq : ∃ o, H a = some o ∧ immut o = false := by exact ⟨_, by assumption, rfl⟩) : Sim K mg W (upd H a o') (m.set i c) := by
  have ha : a ∈ W.i := List.mem_of_getElem? hi
  obtain ⟨o, ho, hm⟩ := hq
  refine ⟨s.nd, by rw [List.length_set]; exact s.len, fun j b c' e1 e2 => ?_, s.sep, fun a ha => upd_some (s.zs a ha)⟩
  by_cases hj : j = i
  · subst hj
    rw [hi] at e1
    cases e1
    have hl : j < m.length := by
      rw [← s.len]
      exact (List.getElem?_eq_some_iff.mp hi).1
    rw [List.getElem?_set_self hl] at e2
    cases e2
    exact hc
  · rw [List.getElem?_set_ne (Ne.symm hj)] at e2
    have hb : b ≠ a := by
      rintro rfl
      exact hj ((List.getElem?_inj (List.getElem?_eq_some_iff.mp e1).1 s.nd).mp (e1.trans hi.symm))
    exact (s.cell j b c' e1 e2).ext (Ext.mut ha ho hm) (upd_ne hb)
theorem REnv.ext {η : Env'} {σ : SL} (e : Ext W H W' H') (h : REnv K W H η σ) : REnv K W' H' η σ :=
  ⟨h.1, fun i d q => let ⟨v, a, b⟩ := h.2 i d q; ⟨v, a, b.ext e⟩⟩
theorem REnv.set {η : Env'} {σ : SL} {i : Nat} {d : D} {v : V} (h : REnv K W H η σ) (r : Rep K W H d v) : REnv K W H (η.set i (some d)) (σ.set i (some v)) := by
  refine ⟨by rw [List.length_set, List.length_set]; exact h.1, fun j d' q => ?_⟩
  by_cases hj : i = j
  · subst hj
    have hl := (List.getElem?_eq_some_iff.mp q).1
    rw [List.length_set] at hl
    rw [List.getElem?_set_self hl] at q
    cases q
    exact ⟨v, List.getElem?_set_self (by rw [← h.1]; exact hl), r⟩
  · rw [List.getElem?_set_ne hj] at q
    obtain ⟨v', a, b⟩ := h.2 j d' q
    exact ⟨v', by rw [List.getElem?_set_ne hj]; exact a, b⟩
end

/-! ### what is wanted of a result -/
section
variable (K : PySem.W.Frag) (mg : Str → Option Value) (E : XK)
def ExR (x : Exn) (W : Wd) (H : Hp) (c : Value) (o : Option Addr) : Prop := mg x.cls = some c ∧ XFs K W H x.fs o
def Post {α β : Type} (Rl : Wd → Hp → α → β → Prop) (W : Wd) (H : Hp) (Q : β → Hp → Prop) : R α → Prop
  | .ok a m => ∀ b W' H', Ext W H W' H' → Sim K mg W' H' m → Rl W' H' a b → Q b H'
  | .exc x m => ∀ c o W' H', Ext W H W' H' → Sim K mg W' H' m → ExR K mg x W' H' c o → E c o H'
  | .stk => False
end
section
variable {K : PySem.W.Frag} {mg : Str → Option Value} {E : XK} {W W' : Wd} {H H' : Hp} {α β γ δ : Type} {Rl : Wd → Hp → α → β → Prop} {Rm : Wd → Hp → γ → δ → Prop}
theorem Post.ext {Q : β → Hp → Prop} {r : R α} (e : Ext W H W' H') (h : Post K mg E Rl W H Q r) : Post K mg E Rl W' H' Q r := by
  cases r with
  | ok a m => exact fun b W2 H2 e2 s q => h b W2 H2 (e.trans e2) s q
  | exc x m => exact fun c o W2 H2 e2 s q => h c o W2 H2 (e.trans e2) s q
  | stk => exact h
theorem Post.imp {Q Q' : β → Hp → Prop} {r : R α} (h : Post K mg E Rl W H Q r) (k : ∀ b H', Q b H' → Q' b H') : Post K mg E Rl W H Q' r := by
  cases r with
  | ok a m => exact fun b W2 H2 e2 s q => k _ _ (h b W2 H2 e2 s q)
  | exc x m => exact h
  | stk => exact h
theorem Post.bind {Q : δ → Hp → Prop} {r : R α} {f : α → Mem → R γ} (h : Post K mg E Rm W H Q (r.bind f)) :
    Post K mg E Rl W H (fun b H1 => ∃ W1 a m1, Ext W H W1 H1 ∧ Sim K mg W1 H1 m1 ∧ Rl W1 H1 a b ∧ Post K mg E Rm W1 H1 Q (f a m1)) r := by
  cases r with
  | ok a m => exact fun b W2 H2 e2 s q => ⟨W2, a, m, e2, s, q, Post.ext e2 h⟩
  | exc x m => exact h
  | stk => exact h
/-- a result at once -/
theorem Post.now {Q : β → Hp → Prop} {a : α} {m : Mem} {b : β} (h : Post K mg E Rl W H Q (.ok a m)) (s : Sim K mg W H m) (r : Rl W H a b) : Q b H := h b W H (Ext.refl W H) s r
end
/-- a new list, kept as a cell or at once -/
def mkL (al : Bool) (ds : List D) (m : Mem) : R D := match al with
  | true => .ok (.ref m.length) (m ++ [.lst ds])
  | false => .ok (.lst ds) m
section
variable {K : PySem.W.Frag} {mg : Str → Option Value} {E : XK} {W : Wd} {H : Hp} {m : Mem} {Q : VK} {ds : List D} {vs : List V} {p : Addr}
theorem Sim.newL {al : Bool} (s : Sim K mg W H m) (hp : H p = none) (r : Reps K W H ds vs) (h : Post K mg E (Rep K) W H Q (mkL al ds m)) : Q (.ref p) (upd H p (.lst vs)) := by
  cases al with
  | false => exact h _ W _ (Ext.fresh hp) (s.fresh hp) (rep_lst ⟨upd_same, s.nin hp, s.ninz hp⟩ (r.ext (Ext.fresh hp)))
  | true =>
    have e : Ext W H (W.add p) (upd H p (.lst vs)) := Ext.alloc hp (s.ninz hp)
    refine h _ (W.add p) _ e (s.alloc hp ⟨vs, upd_same, r.ext e⟩) (rep_ref ?_)
    show (W.i ++ [p])[m.length]? = some p
    rw [← s.len, List.getElem?_append_right (Nat.le_refl _), Nat.sub_self]
    rfl
theorem Sim.newT {o : Obj} (s : Sim K mg W H m) (hp : H p = none) (ho : o.dict = none ∧ o.cls = .type "tuple") (r : Reps K W H ds vs) (h : Post K mg E (Rep K) W H Q (.ok (.tup ds) m)) : Q (.ref p) (upd H p (.frz o (.tup vs))) :=
  h _ W _ (Ext.fresh hp) (s.fresh hp) (rep_tup (.inl ⟨o, upd_same, ho⟩) (r.ext (Ext.fresh hp)))
end
def lstC : Option Cell → Option (List D)
  | some (.lst ds) => some ds
  | _ => none
/-- a list that is read -/
def lstOf (m : Mem) : D → Option (List D)
  | .lst ds => some ds
  | .scr ds => some ds
  | .ref i => lstC m[i]?
  | _ => none
/-- a list that is a cell or made here (no script) -/
def lstOwn (m : Mem) : D → Option (List D)
  | .lst ds => some ds
  | .ref i => lstC m[i]?
  | _ => none
section
variable {K : PySem.W.Frag} {mg : Str → Option Value} {W : Wd} {H : Hp} {m : Mem} {d : D} {v : V} {ds : List D}
theorem Sim.own (s : Sim K mg W H m) (r : Rep K W H d v) (h : lstOwn m d = some ds) : ∃ a vs, v = .ref a ∧ H a = some (.lst vs) ∧ Reps K W H ds vs := by
  cases d with
  | lst xs =>
    cases h
    obtain ⟨a, vs, e1, e2, e3⟩ := r.lst'
    exact ⟨a, vs, e1, e2.1, e3⟩
  | ref i =>
    obtain ⟨a, e1, e2⟩ := r.ref'
    have h : lstC m[i]? = some ds := h
    cases hm : m[i]? with
    | none => rw [hm] at h; cases h
    | some c =>
      rw [hm] at h
      cases c with
      | lst xs =>
        cases h
        obtain ⟨vs, q1, q2⟩ := s.cell i a _ e2 hm
        exact ⟨a, vs, e1, q1, q2⟩
      | _ => cases h
  | _ => cases h
theorem Sim.lst (s : Sim K mg W H m) (r : Rep K W H d v) (h : lstOf m d = some ds) : ∃ a vs, v = .ref a ∧ SqL K H a vs ∧ Reps K W H ds vs := by
  cases d with
  | scr xs =>
    cases h
    obtain ⟨a, vs, e1, e2, e3⟩ := r.scr'
    exact ⟨a, vs, e1, e2.sq, e3⟩
  | lst xs =>
    obtain ⟨a, vs, e1, e2, e3⟩ := s.own r (ds := ds) h
    exact ⟨a, vs, e1, .inl (.inl e2), e3⟩
  | ref i =>
    obtain ⟨a, vs, e1, e2, e3⟩ := s.own r (ds := ds) h
    exact ⟨a, vs, e1, .inl (.inl e2), e3⟩
  | _ => cases h
end
/-- the relations for truths -/
def Same' {α : Type} (_ : Wd) (_ : Hp) (a b : α) : Prop := a = b
section
variable (K : PySem.W.Frag) (mg : Str → Option Value) (E : XK)
/-- the reading of a mirror -/
def rd {α β : Type} (Rl : Wd → Hp → α → β → Prop) (c : Env' → Mem → R α) : SL → Hp → (β → Hp → Prop) → Prop := fun σ H Q =>
  ∃ W η m, Sim K mg W H m ∧ REnv K W H η σ ∧ Post K mg E Rl W H Q (c η m)
abbrev rdE (c : Env' → Mem → R D) : TE := rd K mg E (Rep K) c
abbrev rdA (c : Env' → Mem → R (List D)) : TA := rd K mg E (Reps K) c
abbrev rdT (c : Env' → Mem → R Bool) : TT := rd K mg E Same' c
end
theorem _root_.L2.PE.imp {X : Cx} {e : Expr} {t t' : TE} (h : PE X e t) (k : ∀ σ H Q, t' σ H Q → t σ H Q) : PE X e t' := ⟨fun pins s σ H Q I q => h.run pins s σ H Q I (k σ H Q q)⟩
theorem _root_.L2.PT.imp {X : Cx} {e : Expr} {t t' : TT} (h : PT X e t) (k : ∀ σ H Q, t' σ H Q → t σ H Q) : PT X e t' := ⟨fun pins s σ H Q I q => h.run pins s σ H Q I (k σ H Q q)⟩
theorem _root_.L2.PW.imp {X : Cx} {e : Expr} {t t' : TT} (h : PW X e t) (k : ∀ σ H Q, t' σ H Q → t σ H Q) : PW X e t' := ⟨fun wh pins s σ H Q I q => h.run wh pins s σ H Q I (k σ H Q q)⟩
theorem _root_.L2.PA.imp {X : Cx} {e : List Expr} {t t' : TA} (h : PA X e t) (k : ∀ σ H Q, t' σ H Q → t σ H Q) : PA X e t' := ⟨fun pos pins s σ H Q I q => h.run pos pins s σ H Q I (k σ H Q q)⟩
theorem _root_.L2.PK.imp {X : Cx} {e : List Keyword} {t t' : TA} (h : PK X e t) (k : ∀ σ H Q, t' σ H Q → t σ H Q) : PK X e t' := ⟨fun pos pins s σ H Q I q => h.run pos pins s σ H Q I (k σ H Q q)⟩
theorem _root_.L2.PS.imp {X : Cx} {e : Stmt} {t t' : TS} (h : PS X e t) (k : ∀ Dn σ H, t' Dn σ H → t Dn σ H) : PS X e t' := ⟨fun pins s σ H Dn I q => h.run pins s σ H Dn I (k Dn σ H q)⟩
theorem _root_.L2.PSs.imp {X : Cx} {e : List Stmt} {t t' : TS} (h : PSs X e t) (k : ∀ Dn σ H, t' Dn σ H → t Dn σ H) : PSs X e t' := ⟨fun pins s σ H Dn I q => h.run pins s σ H Dn I (k Dn σ H q)⟩
end Mir

/-! Mir, expressions. -/
namespace Mir
open PySem PySem.Spec PyProof.Rows L2

/-! ### new tuples, told with their object -/
def NewT (xs : List V) (H : Hp) (Q : VK) : Prop := ∀ p o, H p = none → (o : Obj).dict = none ∧ o.cls = .type "tuple" → Q (.ref p) (upd H p (.frz o (.tup xs)))
def tTupF (t : TA) : TE := fun σ H Q => t σ H fun xs H1 => xs.length ≤ sizeLine ∧ NewT xs H1 Q
theorem pe_tupF {X : Cx} {es : List Expr} {t : TA} {x1 : Nat} {pos : Pos} (h : PA X es t) : PE X (.Tuple es x1 pos) (tTupF t) := by
  refine ⟨fun pins s σ H Q I hq => ?_⟩
  refine wpAny_Tuple_spliced (thn (h.run pos pins s σ H _ I hq) fun us s1 ⟨xs, H1, I1, r, z, q⟩ => ⟨by rw [← r.length]; exact z, ?_⟩)
  have hf : H1 s1.heap.objs.size = none := I1.hok.fresh (Nat.le_refl _)
  refine ⟨.ref s1.heap.objs.size, _, I1.laid (o := .frz { cls := .type "tuple", data := .seq us.toArray } (.tup xs)) (t' := s1.toks) (fun b u e => Heap.get?_push_of_some _ e) (Nat.le_refl _) ?_, rfl, q _ _ hf ⟨rfl, rfl⟩⟩
  exact ⟨Heap.get?_push_size _ rfl, z, us, r, ⟨_, Heap.get?_push_size _ rfl, rfl, _, rfl⟩⟩
section
variable {X : Cx}
theorem op_catF : OpR X (binaryOp .Add) (fun x y H Q => ∃ a b xs ys, x = .ref a ∧ y = .ref b ∧ SqT X.K H a xs ∧ SqT X.K H b ys ∧ xs.length + ys.length ≤ sizeLine ∧ (xs = [] → Q (.ref b) H) ∧ (xs ≠ [] → ys = [] → Q (.ref a) H) ∧ (xs ≠ [] → ys ≠ [] → NewT (xs ++ ys) H Q)) := by
  intro pins s σ H x y v u Q I rx ry h
  obtain ⟨a, b, xs, ys, rfl, rfl, ha, hb, hz, q0, q1, q2⟩ := h
  cases rx
  cases ry
  obtain ⟨its, r1, p1, _⟩ := I.tuple ha
  obtain ⟨its2, r2, p2, _⟩ := I.tuple hb
  by_cases hx : xs = []
  · subst hx
    cases r1
    exact cat_tup0 p1 p2 ⟨.ref b, H, I, rfl, q0 rfl⟩
  · refine HT.cat_tup p1 p2 (fun z => hx (r1.nil_iff.mp z)) (fun z => ⟨.ref a, H, I, rfl, q1 hx (r2.nil_iff.mp z)⟩) (fun z => ?_) (by rw [← r1.length, ← r2.length]; exact hz)
    refine ⟨.ref s.heap.objs.size, _, I.laid (t' := s.toks) (o := .frz { cls := .type "tuple", data := .seq (its ++ its2).toArray } (.tup (xs ++ ys))) (fun b ob q => Heap.get?_push_of_some _ q) (Nat.le_refl _) ?_, rfl, q2 hx (fun w => z (r2.nil_iff.mpr w)) _ _ (I.hok.fresh (Nat.le_refl _)) ⟨rfl, rfl⟩⟩
    exact ⟨Heap.get?_push_size _ rfl, by rw [List.length_append]; exact hz, _, r1.append r2, IsTup.new _ _⟩
theorem sl_tupF : SlR X (fun x lo hi H Q => ∃ a xs, x = .ref a ∧ SqT X.K H a xs ∧ (HT.sIx xs.length 0 lo = 0 ∧ HT.sIx xs.length xs.length hi = xs.length → Q (.ref a) H) ∧ (¬ (HT.sIx xs.length 0 lo = 0 ∧ HT.sIx xs.length xs.length hi = xs.length) → NewT (cutV xs lo hi) H Q)) := by
  intro pins s σ H x v vl vu lo hi sl Q I rx hs pl pu h
  obtain ⟨a, xs, rfl, hx, q1, q2⟩ := h
  cases rx
  obtain ⟨its, r, ht, hz⟩ := I.tuple hx
  have hlen : its.toArray.size = xs.length := by rw [List.size_toArray]; exact r.length.symm
  refine ⟨"tuple", _, PyProof.Rows.slot_tuple_getitem.lookup, ht.typeIs, ?_⟩
  by_cases hw : HT.sIx xs.length 0 lo = 0 ∧ HT.sIx xs.length xs.length hi = xs.length
  · exact getItem_tuple_whole ht hs pl pu (by rw [hlen]; exact hw) ⟨.ref a, H, I, rfl, q1 hw⟩
  · refine HT.getItem_tuple_cut ht hs pl pu (by rw [hlen]; exact hw) ?_ (by rw [hlen]; exact hz)
    rw [hlen]
    refine ⟨.ref s.heap.objs.size, _, I.laid (t' := s.toks) (o := .frz { cls := .type "tuple", data := .seq ((its.drop (HT.sIx xs.length 0 lo)).take (HT.sIx xs.length xs.length hi - HT.sIx xs.length 0 lo)).toArray } (.tup (cutV xs lo hi))) (fun b ob q => Heap.get?_push_of_some _ q) (Nat.le_refl _) ?_, rfl, q2 hw _ _ (I.hok.fresh (Nat.le_refl _)) ⟨rfl, rfl⟩⟩
    exact ⟨Heap.get?_push_size _ rfl, Nat.le_trans (cutV_length xs lo hi) hz, _, (r.drop (HT.sIx xs.length 0 lo)).take (HT.sIx xs.length xs.length hi - HT.sIx xs.length 0 lo), IsTup.new _ _⟩
theorem call_tupleF : CallR X (.type "tuple") (fun xs H Q => ∃ p ys, xs = [.ref p] ∧ ((SqL X.K H p ys ∧ NewT ys H Q) ∨ (SqT X.K H p ys ∧ Q (.ref p) H))) := by
  intro pins s σ H xs us Q I r h
  obtain ⟨p, ys, rfl, h⟩ := h
  obtain ⟨u, rfl, rx⟩ := vals1 r
  cases rx
  rcases h with ⟨hq, q⟩ | ⟨hq, q⟩
  · obtain ⟨its, r', pl, hz⟩ := I.list hq
    have hlen := r'.length
    refine call_tuple_list pl.isList (fun h' kp => ?_) (by simp only [List.size_toArray] <;> omega)
    have I1 : Inv X pins σ H { s with heap := h' } := I.kept (t' := s.toks) kp
    have I2 : Inv X pins σ (upd H h'.objs.size (.frz { cls := .type "tuple", data := .seq its.toArray } (.tup ys))) { s with heap := h'.push { cls := .type "tuple", data := .seq its.toArray } } :=
      I1.laid (t' := s.toks) (fun b o e => Heap.get?_push_of_some _ e) (Nat.le_refl _) (show ObjOk X.prog X.w _ _ _ (.frz _ (.tup ys)) from ⟨Heap.get?_push_size _ rfl, hz, its, r', IsTup.new _ _⟩)
    exact ⟨.ref h'.objs.size, _, I2, rfl, q _ _ (I1.hok.fresh (Nat.le_refl _)) ⟨rfl, rfl⟩⟩
  · obtain ⟨its, r', pl, hz⟩ := I.tuple hq
    exact call_tuple_same pl ⟨.ref p, H, I, rfl, q⟩
end
abbrev EM := Env' → Mem → R D
abbrev TM := Env' → Mem → R Bool
abbrev AM := Env' → Mem → R (List D)
abbrev OM := Env' → Mem → R (Option Int)

/-! ### mirrors -/
def mVar (i : Nat) : EM := fun η m => match η[i]? with
  | some (some d) => .ok d m
  | _ => .stk
def mC (d : D) : EM := fun _ m => .ok d m
def mOp (g : D → D → Mem → R D) (a b : EM) : EM := fun η m => (a η m).bind fun x m1 => (b η m1).bind fun y m2 => g x y m2
def mUn (g : D → Mem → R D) (a : EM) : EM := fun η m => (a η m).bind fun x m1 => g x m1
def toB : D → Mem → R Bool
  | .bl b, m => .ok b m
  | _, _ => .stk
def mTest (a : EM) : TM := fun η m => (a η m).bind toB
def mAnd (a b : TM) : TM := fun η m => (a η m).bind fun x m1 => if x = true then b η m1 else .ok false m1
def mOr (a b : TM) : TM := fun η m => (a η m).bind fun x m1 => if x = true then .ok true m1 else b η m1
def mNot (a : TM) : TM := fun η m => (a η m).bind fun x m1 => .ok (!x) m1
def mAndV (a b : EM) : EM := fun η m => (a η m).bind fun x m1 => (toB x m1).bind fun k m2 => if k = true then b η m2 else .ok (.bl false) m2
def mIf (c : TM) (a b : EM) : EM := fun η m => (c η m).bind fun k m1 => if k = true then a η m1 else b η m1
def mChain (g h : D → D → Mem → R D) (a b c : EM) : EM := fun η m => (a η m).bind fun x m1 => (b η m1).bind fun y m2 => (g x y m2).bind fun z m3 => (toB z m3).bind fun k m4 =>
  if k = true then (c η m4).bind fun w m5 => h y w m5 else .ok (.bl false) m4
def mNil : AM := fun _ m => .ok [] m
def mCons (a : EM) (b : AM) : AM := fun η m => (a η m).bind fun x m1 => (b η m1).bind fun xs m2 => .ok (x :: xs) m2
def mTup (a : AM) : EM := fun η m => (a η m).bind fun xs m1 => if xs.length ≤ sizeLine then .ok (.tup xs) m1 else .stk
def mLst (al : Bool) (a : AM) : EM := fun η m => (a η m).bind fun xs m1 => if xs.length ≤ sizeLine then mkL al xs m1 else .stk
def mCB (g : List D → Mem → R D) (a : AM) : EM := fun η m => (a η m).bind fun xs m1 => g xs m1
def mNoPart : OM := fun _ m => .ok none m
def mPart (a : EM) : OM := fun η m => (a η m).bind fun x m1 => match x with
  | .int i => .ok (some i) m1
  | _ => .stk
def mSl (g : D → Option Int → Option Int → Mem → R D) (a : EM) (lo hi : OM) : EM := fun η m => (a η m).bind fun x m1 => (lo η m1).bind fun l m2 => (hi η m2).bind fun u m3 => g x l u m3

section
variable {X : Cx} {E : XK} {a b c e : Expr} {ca cb cc : EM} {pos : Pos}
abbrev MEx (X : Cx) (E : XK) (e : Expr) (c : EM) : Prop := PE X e (rdE X.K X.mg E c)
abbrev MT (X : Cx) (E : XK) (e : Expr) (c : TM) : Prop := PT X e (rdT X.K X.mg E c)
abbrev MW (X : Cx) (E : XK) (e : Expr) (c : TM) : Prop := PW X e (rdT X.K X.mg E c)
abbrev MA (X : Cx) (E : XK) (e : List Expr) (c : AM) : Prop := PA X e (rdA X.K X.mg E c)
abbrev MO (X : Cx) (E : XK) (e : Option Expr) (c : OM) : Prop := PO X e (rd X.K X.mg E Same' c)

theorem me_var {i : Nat} (h : PE X e (tVar i)) : MEx X E e (mVar i) := h.imp fun σ H Q ⟨W, η, m, s, n, p⟩ => by
  unfold mVar at p
  cases hi : η[i]? with
  | none => rw [hi] at p; exact p.elim
  | some o =>
    cases o with
    | none => rw [hi] at p; exact p.elim
    | some d =>
      rw [hi] at p
      obtain ⟨v, e1, e2⟩ := n.2 i d hi
      exact ⟨v, e1, p.now s e2⟩
/-- the name in slot i -/
theorem mv (i : Nat) {x : Str} {pos : Pos} (hN : X.N[i]? = some x := by rfl) (hv : Vis X.env.scope x := by first | exact Or.inl rfl | exact Or.inr (Or.inl rfl) | exact Or.inr (Or.inr rfl)) (hd : (x == ("__debug__" : Str)) = false := by decide)
    (hcd : (x == ("__classdict__" : Str)) = false := by decide) : MEx X E (.Name x pos) (mVar i) := me_var (pe_var hN hv hd hcd)
theorem me_c {v : V} {d : D} (h : PE X e (tC v)) (hd : ∀ W H, Rep X.K W H d v) : MEx X E e (mC d) := h.imp fun σ H Q ⟨W, η, m, s, n, p⟩ => p.now s (hd W H)
theorem me_int {i j pos} : MEx X E (.Constant (.int i) j pos) (mC (.int i)) := me_c pe_int fun _ _ => rep_int
theorem me_bl {b j pos} : MEx X E (.Constant (.bool b) j pos) (mC (.bl b)) := me_c pe_bl fun _ _ => rep_bl
theorem me_non {j pos} : MEx X E (.Constant .none j pos) (mC .non) := me_c pe_non fun _ _ => rep_non
theorem me_str {x j pos} : MEx X E (.Constant (.str x) j pos) (mC (.str x)) := me_c pe_str fun _ _ => rep_str
/-- a constant of the module -/
structure GlobD (K : PySem.W.Frag) (mg : Str → Option Value) (x : Str) (d : D) : Prop where
  ex : ∃ u v, mg x = some u ∧ RelV v u ∧ ∀ W H, Rep K W H d v
/-- operations on values, by their mirrors -/
def rM (K : PySem.W.Frag) (mg : Str → Option Value) (E : XK) (g : D → D → Mem → R D) : R2 := fun x y H Q => ∃ W m d e, Sim K mg W H m ∧ Rep K W H d x ∧ Rep K W H e y ∧ Post K mg E (Rep K) W H Q (g d e m)
abbrev OpM (X : Cx) (E : XK) (f : Value → Value → Sem Value) (g : D → D → Mem → R D) : Prop := OpR X f (rM X.K X.mg E g)
def rU1 (K : PySem.W.Frag) (mg : Str → Option Value) (E : XK) (g : D → Mem → R D) : V → Hp → VK → Prop := fun x H Q => ∃ W m d, Sim K mg W H m ∧ Rep K W H d x ∧ Post K mg E (Rep K) W H Q (g d m)
theorem two {g : D → D → Mem → R D} {σ : SL} {H : Hp} {Q : VK} (h : rdE X.K X.mg E (mOp g ca cb) σ H Q) : tOp (rM X.K X.mg E g) (rdE X.K X.mg E ca) (rdE X.K X.mg E cb) σ H Q := by
  obtain ⟨W, η, m, s, n, p⟩ := h
  refine ⟨W, η, m, s, n, (Post.bind (Rl := Rep X.K) p).imp fun x H1 ⟨W1, d, m1, e1, s1, r1, p1⟩ => ?_⟩
  refine ⟨W1, η, m1, s1, n.ext e1, (Post.bind (Rl := Rep X.K) p1).imp fun y H2 ⟨W2, d2, m2, e2, s2, r2, p2⟩ => ?_⟩
  exact ⟨W2, m2, d, d2, s2, r1.ext e2, r2, p2⟩
theorem me_op {op : Operator} {g : D → D → Mem → R D} (ho : OpM X E (binaryOp op) g) (ha : MEx X E a ca) (hb : MEx X E b cb) : MEx X E (.BinOp a op b pos) (mOp g ca cb) := (pe_op ho ha hb).imp fun _ _ _ h => two h
theorem me_un {op : UnaryOp} {g : D → Mem → R D} (ho : UnR X (unaryOp op) (rU1 X.K X.mg E g)) (ha : MEx X E a ca) : MEx X E (.UnaryOp op a pos) (mUn g ca) := (pe_un ho ha).imp fun σ H Q ⟨W, η, m, s, n, p⟩ =>
  ⟨W, η, m, s, n, (Post.bind (Rl := Rep X.K) p).imp fun x H1 ⟨W1, d, m1, e1, s1, r1, p1⟩ => ⟨W1, m1, d, s1, r1, p1⟩⟩
theorem me_cmp {op : CmpOp} {g : D → D → Mem → R D} (ho : OpM X E (compareOp op) g) (ha : MEx X E a ca) (hb : MEx X E b cb) (hm : behindInMarks op b = false) : MEx X E (.Compare a [op] [b] pos) (mOp g ca cb) := (pe_cmpR ho ha hb hm).imp fun _ _ _ h => two h
theorem toB_post {W : Wd} {H : Hp} {d : D} {m : Mem} {x : V} {Q : Bool → Hp → Prop} (s : Sim X.K X.mg W H m) (r : Rep X.K W H d x) (p : Post X.K X.mg E Same' W H Q (toB d m)) : ∃ k, x = .bl k ∧ Q k H := by
  cases d with
  | bl b => exact ⟨b, r.bl', p.now s rfl⟩
  | _ => exact p.elim
theorem test_of {c : EM} {t : TE} {σ : SL} {H : Hp} {Q : Bool → Hp → Prop} (ht : ∀ Q, rdE X.K X.mg E c σ H Q → t σ H Q) (h : rdT X.K X.mg E (mTest c) σ H Q) : tTest t σ H Q := by
  obtain ⟨W, η, m, s, n, p⟩ := h
  refine ht _ ⟨W, η, m, s, n, (Post.bind (Rl := Rep X.K) p).imp fun x H1 ⟨W1, d, m1, e1, s1, r1, p1⟩ => ?_⟩
  obtain ⟨k, e, q⟩ := toB_post s1 r1 p1
  exact ⟨k, e, q⟩
theorem mt_cmp {op : CmpOp} {g : D → D → Mem → R D} (ho : OpM X E (compareOp op) g) (ha : MEx X E a ca) (hb : MEx X E b cb) (hm : behindInMarks op b = false) : MT X E (.Compare a [op] [b] pos) (mTest (mOp g ca cb)) := (pt_cmpR ho ha hb hm).imp fun _ _ _ h => test_of (fun _ h => two h) h
theorem chain_of {g h : D → D → Mem → R D} {σ : SL} {H : Hp} {Q : VK} (z : rdE X.K X.mg E (mChain g h ca cb cc) σ H Q) : tChain (rM X.K X.mg E g) (rM X.K X.mg E h) (rdE X.K X.mg E ca) (rdE X.K X.mg E cb) (rdE X.K X.mg E cc) σ H Q := by
  obtain ⟨W, η, m, s, n, p⟩ := z
  refine ⟨W, η, m, s, n, (Post.bind (Rl := Rep X.K) p).imp fun x H1 ⟨W1, d, m1, e1, s1, r1, p1⟩ => ?_⟩
  refine ⟨W1, η, m1, s1, n.ext e1, (Post.bind (Rl := Rep X.K) p1).imp fun y H2 ⟨W2, d2, m2, e2, s2, r2, p2⟩ => ?_⟩
  refine ⟨W2, m2, d, d2, s2, r1.ext e2, r2, (Post.bind (Rl := Rep X.K) p2).imp fun z H3 ⟨W3, d3, m3, e3, s3, r3, p3⟩ => ?_⟩
  cases d3 with
  | bl k =>
    refine ⟨k, r3.bl', ?_⟩
    have p3 : Post X.K X.mg E (Rep X.K) W3 H3 Q (if k = true then (cc η m3).bind fun w m5 => h d2 w m5 else .ok (.bl false) m3) := p3
    cases k with
    | true =>
      rw [if_pos rfl] at p3 ⊢
      refine ⟨W3, η, m3, s3, ((n.ext e1).ext e2).ext e3, (Post.bind (Rl := Rep X.K) p3).imp fun w H4 ⟨W4, d4, m4, e4, s4, r4, p4⟩ => ?_⟩
      exact ⟨W4, m4, d2, d4, s4, (r2.ext e3).ext e4, r4, p4⟩
    | false =>
      rw [if_neg Bool.false_ne_true] at p3 ⊢
      exact p3.now s3 rep_bl
  | _ => exact p3.elim
theorem mt_chain {op op' : CmpOp} {g h : D → D → Mem → R D} (ho : OpM X E (compareOp op) g) (ho' : OpM X E (compareOp op') h) (ha : MEx X E a ca) (hb : MEx X E b cb) (hc : MEx X E c cc)
    (hm : lastMarks [op, op'] [b, c] = false := by with_unfolding_all rfl) : MT X E (.Compare a [op, op'] [b, c] pos) (mTest (mChain g h ca cb cc)) := (pt_chain ho ho' ha hb hc hm).imp fun _ _ _ z => test_of (fun _ h => chain_of h) z

/-! ### truth -/
def truD (m : Mem) : D → Option Bool
  | .non => some false
  | .bl b => some b
  | .int i => some (i != 0)
  | .str x => if x.length ≤ sizeLine then some ((x.length : Int) != 0) else none
  | .tup ds => some (!ds.isEmpty)
  | .lst ds => some (!ds.isEmpty)
  | .scr ds => some (!ds.isEmpty)
  | .ref i => match m[i]? with
    | some (.lst ds) => some (!ds.isEmpty)
    | some (.dK kvs) => some (!kvs.isEmpty)
    | _ => none
  | .fn _ => none
def mTru (a : EM) : TM := fun η m => (a η m).bind fun x m1 => match truD m1 x with
  | some b => .ok b m1
  | none => .stk
theorem reps_empty {W : Wd} {H : Hp} {ds : List D} {vs : List V} (r : Reps X.K W H ds vs) : (!ds.isEmpty) = !vs.isEmpty := by
  cases ds with
  | nil => rw [r.nil']; rfl
  | cons d ds => obtain ⟨v, r', rfl, _, _⟩ := r.cons'; rfl
theorem tru_of {W : Wd} {H : Hp} {m : Mem} {d : D} {v : V} {k : Bool} (s : Sim X.K X.mg W H m) (r : Rep X.K W H d v) (h : truD m d = some k) : TruV X.K v H k := by
  cases d with
  | non => rw [r.non']; cases h; rfl
  | bl b => rw [r.bl']; cases h; rfl
  | int i => rw [r.int']; cases h; rfl
  | str x =>
    rw [r.str']
    unfold truD at h
    by_cases q : x.length ≤ sizeLine
    · simp only [q, if_true] at h
      cases h
      exact ⟨q, rfl⟩
    · simp only [q, if_false] at h
      cases h
  | tup ds =>
    obtain ⟨a, vs, rfl, e2, e3⟩ := r.tup'
    cases h
    exact .inr (.inl ⟨vs, e2, reps_empty e3⟩)
  | lst ds =>
    obtain ⟨a, vs, rfl, e2, e3⟩ := r.lst'
    cases h
    exact .inl ⟨vs, .inl (.inl e2.1), reps_empty e3⟩
  | scr ds =>
    obtain ⟨a, vs, rfl, e2, e3⟩ := r.scr'
    cases h
    exact .inl ⟨vs, e2.sq, reps_empty e3⟩
  | ref i =>
    obtain ⟨a, rfl, e2⟩ := r.ref'
    simp only [truD] at h
    cases hm : m[i]? with
    | none => rw [hm] at h; cases h
    | some c =>
      rw [hm] at h
      have q := s.cell i a c e2 hm
      cases c with
      | lst xs =>
        cases h
        obtain ⟨vs, q1, q2⟩ := q
        exact .inl ⟨vs, .inl (.inl q1), reps_empty q2⟩
      | dK kvs =>
        cases h
        obtain ⟨vs, q1, q2, q3⟩ := q
        refine .inr (.inr ⟨vs, q1, ?_⟩)
        have := congrArg List.length q2
        simp only [List.length_map] at this
        cases vs <;> cases kvs <;> simp_all
      | _ => cases h
  | fn x => cases h
theorem mt_tru (ha : MEx X E a ca) (he : ∀ whole, isTrue a X.env whole = (do let v ← whole; standAt a.pos; holding [v] (truthy v)) := by intro _; rfl) : MT X E a (mTru ca) := (pt_truth ha he).imp fun σ H Q ⟨W, η, m, s, n, p⟩ =>
  ⟨W, η, m, s, n, (Post.bind (Rl := Rep X.K) p).imp fun x H1 ⟨W1, d, m1, e1, s1, r1, p1⟩ => by
    cases h : truD m1 d with
    | none => rw [h] at p1; exact p1.elim
    | some k => rw [h] at p1; exact ⟨k, tru_of s1 r1 h, p1.now s1 rfl⟩⟩

/-! ### and, or, not, if -/
theorem mt_not {ta : TM} (ha : MT X E a ta) : MT X E (.UnaryOp .Not a pos) (mNot ta) := (pt_not ha).imp fun σ H Q ⟨W, η, m, s, n, p⟩ =>
  ⟨W, η, m, s, n, (Post.bind (Rl := Same') p).imp fun x H1 ⟨W1, d, m1, e1, s1, r1, p1⟩ => by
    cases (show d = x from r1)
    exact p1.now s1 rfl⟩
theorem mw_and1 {ta : TM} (ha : MT X E a ta) : MW X E (.BoolOp .And [a] pos) ta := pw_and1 ha
theorem mw_or1 {ta : TM} (ha : MT X E a ta) : MW X E (.BoolOp .Or [a] pos) ta := pw_or1 ha
theorem mw_and {ta tb : TM} {rest : List Expr} (ha : MT X E a ta) (hb : MW X E (.BoolOp .And (b :: rest) pos) tb) : MW X E (.BoolOp .And (a :: b :: rest) pos) (mAnd ta tb) := (pw_and ha hb).imp fun σ H Q ⟨W, η, m, s, n, p⟩ =>
  ⟨W, η, m, s, n, (Post.bind (Rl := Same') p).imp fun x H1 ⟨W1, d, m1, e1, s1, r1, p1⟩ => by
    cases (show d = x from r1)
    cases x with
    | true => rw [if_pos rfl] at p1 ⊢; exact ⟨W1, η, m1, s1, n.ext e1, p1⟩
    | false => rw [if_neg Bool.false_ne_true] at p1 ⊢; exact p1.now s1 rfl⟩
theorem mw_or {ta tb : TM} {rest : List Expr} (ha : MT X E a ta) (hb : MW X E (.BoolOp .Or (b :: rest) pos) tb) : MW X E (.BoolOp .Or (a :: b :: rest) pos) (mOr ta tb) := (pw_or ha hb).imp fun σ H Q ⟨W, η, m, s, n, p⟩ =>
  ⟨W, η, m, s, n, (Post.bind (Rl := Same') p).imp fun x H1 ⟨W1, d, m1, e1, s1, r1, p1⟩ => by
    cases (show d = x from r1)
    cases x with
    | true => rw [if_pos rfl] at p1 ⊢; exact p1.now s1 rfl
    | false => rw [if_neg Bool.false_ne_true] at p1 ⊢; exact ⟨W1, η, m1, s1, n.ext e1, p1⟩⟩
theorem me_and {rest : List Expr} (ha : MEx X E a ca) (hb : MEx X E (.BoolOp .And (b :: rest) pos) cb) : MEx X E (.BoolOp .And (a :: b :: rest) pos) (mAndV ca cb) := (pe_and ha hb).imp fun σ H Q ⟨W, η, m, s, n, p⟩ =>
  ⟨W, η, m, s, n, (Post.bind (Rl := Rep X.K) p).imp fun x H1 ⟨W1, d, m1, e1, s1, r1, p1⟩ => by
    cases d with
    | bl k =>
      refine ⟨k, r1.bl', ?_⟩
      cases k with
      | true => rw [if_pos rfl]; exact ⟨W1, η, m1, s1, n.ext e1, p1⟩
      | false => rw [if_neg Bool.false_ne_true]; exact Post.now p1 s1 rep_bl
    | _ => exact p1.elim⟩
/-! ### arguments, displays -/
theorem ma_nil : MA X E [] mNil := pa_nil.imp fun σ H Q ⟨W, η, m, s, n, p⟩ => p.now s reps_nil
theorem cons_of {ta : AM} {σ : SL} {H : Hp} {Q : List V → Hp → Prop} (h : rdA X.K X.mg E (mCons ca ta) σ H Q) : tCons (rdE X.K X.mg E ca) (rdA X.K X.mg E ta) σ H Q := by
  obtain ⟨W, η, m, s, n, p⟩ := h
  refine ⟨W, η, m, s, n, (Post.bind (Rl := Rep X.K) p).imp fun x H1 ⟨W1, d, m1, e1, s1, r1, p1⟩ => ?_⟩
  refine ⟨W1, η, m1, s1, n.ext e1, (Post.bind (Rl := Reps X.K) p1).imp fun y H2 ⟨W2, d2, m2, e2, s2, r2, p2⟩ => ?_⟩
  exact p2.now s2 (reps_cons (r1.ext e2) r2)
theorem ma_cons {es : List Expr} {ta : AM} (ha : MEx X E a ca) (hr : MA X E es ta) (hs : starEach (a :: es) X.env = (false, eval a X.env) :: starEach es X.env := by rfl) : MA X E (a :: es) (mCons ca ta) := (pa_cons ha hr hs).imp fun _ _ _ h => cons_of h
theorem me_tup {es : List Expr} {ta : AM} {k : Nat} (h : MA X E es ta) : MEx X E (.Tuple es k pos) (mTup ta) := (pe_tupF h).imp fun σ H Q ⟨W, η, m, s, n, p⟩ =>
  ⟨W, η, m, s, n, (Post.bind (Rl := Reps X.K) p).imp fun x H1 ⟨W1, d, m1, e1, s1, r1, p1⟩ => by
    by_cases q : d.length ≤ sizeLine
    · rw [if_pos q] at p1
      exact ⟨by rw [r1.length]; exact q, fun pp oo hp ho => s1.newT hp ho r1 p1⟩
    · rw [if_neg q] at p1
      exact p1.elim⟩
theorem me_lst (al : Bool) {es : List Expr} {ta : AM} (h : MA X E es ta) : MEx X E (.List es pos) (mLst al ta) := (pe_lst h).imp fun σ H Q ⟨W, η, m, s, n, p⟩ =>
  ⟨W, η, m, s, n, (Post.bind (Rl := Reps X.K) p).imp fun x H1 ⟨W1, d, m1, e1, s1, r1, p1⟩ => by
    by_cases q : d.length ≤ sizeLine
    · rw [if_pos q] at p1
      exact ⟨by rw [r1.length]; exact q, fun pp hp => s1.newL hp r1 p1⟩
    · rw [if_neg q] at p1
      exact p1.elim⟩
/-- calls of built-ins on values -/
def rCM (K : PySem.W.Frag) (mg : Str → Option Value) (E : XK) (g : List D → Mem → R D) : List V → Hp → VK → Prop := fun xs H Q => ∃ W m ds, Sim K mg W H m ∧ Reps K W H ds xs ∧ Post K mg E (Rep K) W H Q (g ds m)
theorem cb_of {g : List D → Mem → R D} {ta : AM} {σ : SL} {H : Hp} {Q : VK} (h : rdE X.K X.mg E (mCB g ta) σ H Q) : tCB (rCM X.K X.mg E g) (rdA X.K X.mg E ta) σ H Q := by
  obtain ⟨W, η, m, s, n, p⟩ := h
  exact ⟨W, η, m, s, n, (Post.bind (Rl := Reps X.K) p).imp fun x H1 ⟨W1, d, m1, e1, s1, r1, p1⟩ => ⟨W1, m1, d, s1, r1, p1⟩⟩
section
variable {g : List D → Mem → R D} {x : Str} {p : Pos} {es : List Expr} {ta : AM} {id T : String}
theorem me_callB (hc : CallR X (.builtin id) (rCM X.K X.mg E g)) (hm : X.mg x = none) (hg : Gl X x) (hv : bootBuiltins x = some (.builtin id)) (ha : MA X E (e :: es) ta) (hn : x ≠ "__name__" := by decide) (hdb : (x == ("__debug__" : Str)) = false := by decide)
    (he : starEach (e :: es) X.env = (false, eval e X.env) :: starEach es X.env := by rfl) (hpl : (backTo pos (starEach es X.env)).any (·.1) = false := by rfl) : MEx X E (.Call (.Name x p) (e :: es) [] pos) (mCB g ta) := (pe_callB hc hg hm hv ha hn hdb he hpl).imp fun _ _ _ h => cb_of h
theorem me_callTy (hc : CallR X (.type T) (rCM X.K X.mg E g)) (hm : X.mg x = none) (hg : Gl X x) (hv : bootBuiltins x = some (.type T)) (ha : MA X E (e :: es) ta) (hn : x ≠ "__name__" := by decide) (hdb : (x == ("__debug__" : Str)) = false := by decide)
    (he : starEach (e :: es) X.env = (false, eval e X.env) :: starEach es X.env := by rfl) (hpl : (backTo pos (starEach es X.env)).any (·.1) = false := by rfl) : MEx X E (.Call (.Name x p) (e :: es) [] pos) (mCB g ta) := (pe_callTy hc hg hm hv ha hn hdb he hpl).imp fun _ _ _ h => cb_of h
end
/-! ### subscripts -/
theorem me_ix {g : D → D → Mem → R D} (hr : IxR X (rM X.K X.mg E g)) (ha : MEx X E a ca) (hb : MEx X E b cb) (hs : PlainIx b) : MEx X E (.Subscript a b pos) (mOp g ca cb) := (pe_ix hr ha hb hs).imp fun _ _ _ h => two h
theorem mo_none : MO X E none mNoPart := ⟨fun pins s σ H Q I h => po_none.run pins s σ H Q I (by
  obtain ⟨W, η, m, s, n, p⟩ := h
  exact p.now s rfl)⟩
theorem mo_some (h : MEx X E a ca) : MO X E (some a) (mPart ca) := ⟨fun pins s σ H Q I h' => (po_some h).run pins s σ H Q I (by
  obtain ⟨W, η, m, s, n, p⟩ := h'
  refine ⟨W, η, m, s, n, (Post.bind (Rl := Rep X.K) p).imp fun x H1 ⟨W1, d, m1, e1, s1, r1, p1⟩ => ?_⟩
  cases d with
  | int i => exact ⟨i, r1.int', p1.now s1 rfl⟩
  | _ => exact p1.elim)⟩
def rSM (K : PySem.W.Frag) (mg : Str → Option Value) (E : XK) (g : D → Option Int → Option Int → Mem → R D) : V → Option Int → Option Int → Hp → VK → Prop := fun x lo hi H Q => ∃ W m d, Sim K mg W H m ∧ Rep K W H d x ∧ Post K mg E (Rep K) W H Q (g d lo hi m)
theorem me_sl {g : D → Option Int → Option Int → Mem → R D} {lo hi : Option Expr} {tl th : OM} {p2 : Pos} (hr : SlR X (rSM X.K X.mg E g)) (he : MEx X E a ca) (hl : MO X E lo tl) (hu : MO X E hi th) : MEx X E (.Subscript a (.Slice lo hi none p2) pos) (mSl g ca tl th) :=
  (pe_slice hr he hl hu).imp fun σ H Q ⟨W, η, m, s, n, p⟩ => by
    refine ⟨W, η, m, s, n, (Post.bind (Rl := Rep X.K) p).imp fun x H1 ⟨W1, d, m1, e1, s1, r1, p1⟩ => ?_⟩
    refine ⟨W1, η, m1, s1, n.ext e1, (Post.bind (Rl := Same') p1).imp fun y H2 ⟨W2, d2, m2, e2, s2, r2, p2⟩ => ?_⟩
    cases (show d2 = y from r2)
    refine ⟨W2, η, m2, s2, (n.ext e1).ext e2, (Post.bind (Rl := Same') p2).imp fun z H3 ⟨W3, d3, m3, e3, s3, r3, p3⟩ => ?_⟩
    cases (show d3 = z from r3)
    exact ⟨W3, m3, d, s3, (r1.ext e2).ext e3, p3⟩
end
end Mir

/-! Mir, statements, loops, comprehensions, calls. -/
namespace Mir
open PySem PySem.Spec PyProof.Rows L2

/-! ### from one heap to another -/
structure Tr (K : PySem.W.Frag) (W : Wd) (H : Hp) (W' : Wd) (H' : Hp) : Prop where
  rf : ∀ (i : Nat) (a : Addr), W.i[i]? = some a → W'.i[i]? = some a
  tp : ∀ a vs, SqF K H a vs → SqF K H' a vs
  ls : ∀ a (o : HO), (H a = some o ∧ a ∉ W.i ∧ a ∉ W.z) → (H' a = some o ∧ a ∉ W'.i ∧ a ∉ W'.z)
  sc : ∀ a vs, LIm K W H a vs → LIm K W' H' a vs
mutual
theorem Rep.tr {K : PySem.W.Frag} {W W' : Wd} {H H' : Hp} (e : Tr K W H W' H') : ∀ {d : D} {v : V}, Rep K W H d v → Rep K W' H' d v
  | .non, v, h => by unfold Rep at h ⊢; exact h
  | .bl b, v, h => by unfold Rep at h ⊢; exact h
  | .int i, v, h => by unfold Rep at h ⊢; exact h
  | .str x, v, h => by unfold Rep at h ⊢; exact h
  | .tup ds, v, h => by
    unfold Rep at h ⊢
    obtain ⟨a, vs, e1, e2, e3⟩ := h
    exact ⟨a, vs, e1, e.tp _ _ e2, Reps.tr e e3⟩
  | .lst ds, v, h => by
    unfold Rep at h ⊢
    obtain ⟨a, vs, e1, e2, e3⟩ := h
    exact ⟨a, vs, e1, e.ls _ _ e2, Reps.tr e e3⟩
  | .scr ds, v, h => by
    unfold Rep at h ⊢
    obtain ⟨a, vs, e1, e2, e3⟩ := h
    exact ⟨a, vs, e1, e.sc _ _ e2, Reps.tr e e3⟩
  | .ref i, v, h => by
    unfold Rep at h ⊢
    obtain ⟨a, e1, e2⟩ := h
    exact ⟨a, e1, e.rf _ _ e2⟩
  | .fn x, v, h => by unfold Rep at h ⊢; exact h
theorem Reps.tr {K : PySem.W.Frag} {W W' : Wd} {H H' : Hp} (e : Tr K W H W' H') : ∀ {ds : List D} {vs : List V}, Reps K W H ds vs → Reps K W' H' ds vs
  | [], vs, h => by unfold Reps at h ⊢; exact h
  | d :: ds, vs, h => by
    unfold Reps at h ⊢
    obtain ⟨v, r, e1, e2, e3⟩ := h
    exact ⟨v, r, e1, Rep.tr e e2, Reps.tr e e3⟩
end
/-- more scratch addresses may be there -/
structure ExtZ (W : Wd) (H : Hp) (W' : Wd) (H' : Hp) : Prop where
  z : ∀ p ∈ W'.z, p ∉ W.z → H p = none
  zs : ∀ p ∈ W.z, p ∈ W'.z
  pre : ∃ t, W'.i = W.i ++ t
  new : ∀ a ∈ W'.i, a ∉ W.i → H a = none
  keep : ∀ a o, H a = some o → (immut o = true ∨ a ∉ W.i) → H' a = some o
theorem Ext.toZ {W W' : Wd} {H H' : Hp} (e : Ext W H W' H') : ExtZ W H W' H' := ⟨fun p hp hn => absurd (e.z ▸ hp) hn, fun p hp => e.z ▸ hp, e.pre, fun a h n => (e.new a h n).1, e.keep⟩
theorem ExtZ.trans {W W1 W2 : Wd} {H H1 H2 : Hp} (a : ExtZ W H W1 H1) (b : Ext W1 H1 W2 H2) : ExtZ W H W2 H2 := by
  obtain ⟨t1, e1⟩ := a.pre
  obtain ⟨t2, e2⟩ := b.pre
  refine ⟨fun p hp hn => a.z p (b.z ▸ hp) hn, fun p hp => b.z ▸ a.zs p hp, ⟨t1 ++ t2, by rw [e2, e1, List.append_assoc]⟩, fun x hx hn => ?_, fun x o h k => ?_⟩
  · by_cases h1 : x ∈ W1.i
    · exact a.new x h1 hn
    · have q := b.new x hx h1
      cases hh : H x with
      | none => rfl
      | some o =>
        have hz : x ∉ W.z := fun hz => q.2 (a.zs x hz)
        have := a.keep x o hh (.inr hn)
        rw [q.1] at this
        cases this
  · have h1 := a.keep x o h k
    refine b.keep x o h1 ?_
    rcases k with k | k1
    · exact .inl k
    · refine .inr fun hx => ?_
      have := a.new x hx k1
      rw [this] at h
      cases h
theorem ExtZ.tr {K : PySem.W.Frag} {W W' : Wd} {H H' : Hp} (e : ExtZ W H W' H') : Tr K W H W' H' := by
  have nn : ∀ a o, H a = some o → a ∉ W.i → a ∉ W.z → a ∉ W'.i ∧ a ∉ W'.z := fun a o h k1 k2 => by
    refine ⟨fun hx => ?_, fun hx => ?_⟩
    · have := e.new a hx k1
      rw [h] at this
      cases this
    · have := e.z a hx k2
      rw [h] at this
      cases this
  refine ⟨fun i a h => ?_, fun a vs h => ?_, fun a vs ⟨h, k1, k2⟩ => ⟨e.keep a _ h (.inr k1), nn a _ h k1 k2⟩, fun a vs h => ?_⟩
  · obtain ⟨t, et⟩ := e.pre
    rw [et, List.getElem?_append_left (List.getElem?_eq_some_iff.mp h).1]
    exact h
  · rcases h with ⟨o, h, k⟩ | h
    · exact .inl ⟨o, e.keep _ _ h (.inl rfl), k⟩
    · exact .inr h
  · rcases h with ⟨h | ⟨o, h⟩, k1, k2⟩ | h
    · exact .inl ⟨.inl (e.keep a _ h (.inr k1)), nn a _ h k1 k2⟩
    · exact .inl ⟨.inr ⟨o, e.keep a _ h (.inl rfl)⟩, nn a _ h k1 k2⟩
    · exact .inr h
theorem Rep.extZ {K : PySem.W.Frag} {W W' : Wd} {H H' : Hp} {d : D} {v : V} (e : ExtZ W H W' H') (h : Rep K W H d v) : Rep K W' H' d v := Rep.tr e.tr h
theorem Reps.extZ {K : PySem.W.Frag} {W W' : Wd} {H H' : Hp} {d : List D} {v : List V} (e : ExtZ W H W' H') (h : Reps K W H d v) : Reps K W' H' d v := Reps.tr e.tr h

/-- a value, or a tuple of which less is known -/
def RepW (K : PySem.W.Frag) (W : Wd) (H : Hp) (d : D) (v : V) : Prop := Rep K W H d v ∨ ∃ ds a vs, d = .tup ds ∧ v = .ref a ∧ SqT K H a vs ∧ Reps K W H ds vs
abbrev RX := PySem.W.Frag → Wd → Hp → D → V → Prop

/-! ### statements -/
inductive RS where
  | nxt (η : Env') (m : Mem) | ret (d : D) (m : Mem) | brk (η : Env') (m : Mem) | cnt (η : Env') (m : Mem) | exc (x : Exn) (m : Mem) | stk
abbrev SM := Env' → Mem → RS
abbrev GM := D → Env' → Mem → R Env'
abbrev GsM := List D → Env' → Mem → R Env'
def R.toS {α : Type} (r : R α) (f : α → Mem → RS) : RS := match r with
  | .ok a m => f a m
  | .exc x m => .exc x m
  | .stk => .stk
@[simp] theorem toS_ok {α : Type} (a : α) (m : Mem) (f : α → Mem → RS) : (R.ok a m).toS f = f a m := nr rfl
@[simp] theorem toS_exc {α : Type} (x : Exn) (m : Mem) (f : α → Mem → RS) : (R.exc x m : R α).toS f = .exc x m := nr rfl
@[simp] theorem toS_stk {α : Type} (f : α → Mem → RS) : (R.stk : R α).toS f = .stk := nr rfl
section
variable (K : PySem.W.Frag) (mg : Str → Option Value) (E : XK)
def PostS (W : Wd) (H : Hp) (Dn : Ends) : RS → Prop
  | .nxt η m => ∀ σ W' H', Ext W H W' H' → Sim K mg W' H' m → REnv K W' H' η σ → Dn.nx σ H'
  | .ret d m => ∀ v W' H', Ext W H W' H' → Sim K mg W' H' m → Rep K W' H' d v → Dn.rt v H'
  | .brk η m => ∀ σ W' H', Ext W H W' H' → Sim K mg W' H' m → REnv K W' H' η σ → Dn.bk σ H'
  | .cnt η m => ∀ σ W' H', Ext W H W' H' → Sim K mg W' H' m → REnv K W' H' η σ → Dn.ct σ H'
  | .exc x m => ∀ c o W' H', Ext W H W' H' → Sim K mg W' H' m → ExR K mg x W' H' c o → E c o H'
  | .stk => False
def rdS (c : SM) : TS := fun Dn σ H => ∃ W η m, Sim K mg W H m ∧ REnv K W H η σ ∧ PostS K mg E W H Dn (c η m)
/-- a target; only the slots vs change -/
def rdG (Rx : RX) (vs : List Nat) (g : GM) : TG := fun v σ H Q => ∃ W η m d, Sim K mg W H m ∧ REnv K W H η σ ∧ Rx K W H d v ∧ Post K mg E (fun W H η' σ' => REnv K W H η' σ' ∧ wipe σ' vs = wipe σ vs) W H Q (g d η m)
def rdGs (vs : List Nat) (g : GsM) : TGs := fun us σ H Q => ∃ W η m ds, Sim K mg W H m ∧ REnv K W H η σ ∧ Reps K W H ds us ∧ Post K mg E (fun W H η' σ' => REnv K W H η' σ' ∧ wipe σ' vs = wipe σ vs) W H Q (g ds η m)
end
section
variable {K : PySem.W.Frag} {mg : Str → Option Value} {E : XK} {W W' : Wd} {H H' : Hp} {Dn : Ends}
theorem PostS.ext {r : RS} (e : Ext W H W' H') (h : PostS K mg E W H Dn r) : PostS K mg E W' H' Dn r := by
  cases r with
  | nxt η m => exact fun σ W2 H2 e2 s q => h σ W2 H2 (e.trans e2) s q
  | ret d m => exact fun σ W2 H2 e2 s q => h σ W2 H2 (e.trans e2) s q
  | brk η m => exact fun σ W2 H2 e2 s q => h σ W2 H2 (e.trans e2) s q
  | cnt η m => exact fun σ W2 H2 e2 s q => h σ W2 H2 (e.trans e2) s q
  | exc x m => exact fun c o W2 H2 e2 s q => h c o W2 H2 (e.trans e2) s q
  | stk => exact h
theorem PostS.bind {α β : Type} {Rl : Wd → Hp → α → β → Prop} {r : R α} {f : α → Mem → RS} (h : PostS K mg E W H Dn (r.toS f)) :
    Post K mg E Rl W H (fun b H1 => ∃ W1 a m1, Ext W H W1 H1 ∧ Sim K mg W1 H1 m1 ∧ Rl W1 H1 a b ∧ PostS K mg E W1 H1 Dn (f a m1)) r := by
  cases r with
  | ok a m => exact fun b W2 H2 e2 s q => ⟨W2, a, m, e2, s, q, PostS.ext e2 h⟩
  | exc x m => exact h
  | stk => exact h
end
def mSkip : SM := fun η m => .nxt η m
def RS.seq (r : RS) (f : SM) : RS := match r with
  | .nxt η m => f η m
  | r => r
@[simp] theorem seq_nxt (η : Env') (m : Mem) (f : SM) : (RS.nxt η m).seq f = f η m := nr rfl
@[simp] theorem seq_ret (d : D) (m : Mem) (f : SM) : (RS.ret d m).seq f = .ret d m := nr rfl
@[simp] theorem seq_brk (η : Env') (m : Mem) (f : SM) : (RS.brk η m).seq f = .brk η m := nr rfl
@[simp] theorem seq_cnt (η : Env') (m : Mem) (f : SM) : (RS.cnt η m).seq f = .cnt η m := nr rfl
@[simp] theorem seq_exc (x : Exn) (m : Mem) (f : SM) : (RS.exc x m).seq f = .exc x m := nr rfl
@[simp] theorem seq_stk (f : SM) : RS.stk.seq f = .stk := nr rfl
def mSeq (a b : SM) : SM := fun η m => (a η m).seq b
def mRet (c : EM) : SM := fun η m => (c η m).toS fun d m1 => .ret d m1
def mDrop (c : EM) : SM := fun η m => (c η m).toS fun _ m1 => .nxt η m1
def mIfS (c : TM) (a b : SM) : SM := fun η m => (c η m).toS fun k m1 => if k = true then a η m1 else b η m1
def mAsg (c : EM) (g : GM) : SM := fun η m => (c η m).toS fun d m1 => (g d η m1).toS fun η' m2 => .nxt η' m2
def gNm (i : Nat) : GM := fun d η m => .ok (η.set i (some d)) m
def gsNil : GsM := fun ds η m => match ds with
  | [] => .ok η m
  | _ => .stk
def gsCons (g : GM) (r : GsM) : GsM := fun ds η m => match ds with
  | d :: ds => (g d η m).bind fun η1 m1 => r ds η1 m1
  | [] => .stk
def gTp (n : Nat) (g : GsM) : GM := fun d η m => match d with
  | .tup ds => if ds.length = n then g ds η m else .stk
  | _ => .stk
section
variable {X : Cx} {E : XK} {pos : Pos} {e : Expr} {ce : EM}
abbrev MS (X : Cx) (E : XK) (st : Stmt) (c : SM) : Prop := PS X st (rdS X.K X.mg E c)
abbrev MSs (X : Cx) (E : XK) (st : List Stmt) (c : SM) : Prop := PSs X st (rdS X.K X.mg E c)
abbrev MG (X : Cx) (E : XK) (Rx : RX) (vs : List Nat) (tg : Expr) (g : GM) : Prop := PG X tg (rdG X.K X.mg E Rx vs g)
abbrev MGs (X : Cx) (E : XK) (vs : List Nat) (tg : List Expr) (g : GsM) : Prop := PGs X tg (rdGs X.K X.mg E vs g)
theorem mss_nil : MSs X E [] mSkip := pss_nil.imp fun Dn σ H ⟨W, η, m, s, n, p⟩ => p σ W H (Ext.refl W H) s n
theorem mss_cons {st : Stmt} {rest : List Stmt} {c1 c2 : SM} (h1 : MS X E st c1) (h2 : MSs X E rest c2) : MSs X E (st :: rest) (mSeq c1 c2) := (pss_cons h1 h2).imp fun Dn σ H ⟨W, η, m, s, n, p⟩ => by
  refine ⟨W, η, m, s, n, ?_⟩
  unfold mSeq at p
  cases h : c1 η m with
  | nxt η1 m1 => rw [h] at p; exact fun σ1 W1 H1 e1 s1 n1 => ⟨W1, η1, m1, s1, n1, PostS.ext e1 p⟩
  | ret d m1 => rw [h] at p; exact p
  | brk η1 m1 => rw [h] at p; exact p
  | cnt η1 m1 => rw [h] at p; exact p
  | exc x m1 => rw [h] at p; exact p
  | stk => rw [h] at p; exact p
theorem mss_one {st : Stmt} {c1 : SM} (h1 : MS X E st c1) : MSs X E [st] c1 := pss_one h1
theorem ms_expr (he : MEx X E e ce) (hs : swapsWith e none pos.line X.env = pure false := by rfl) : MS X E (.Expr e pos) (mDrop ce) := (ps_expr he hs).imp fun Dn σ H ⟨W, η, m, s, n, p⟩ =>
  ⟨W, η, m, s, n, (PostS.bind (Rl := Rep X.K) p).imp fun x H1 ⟨W1, d, m1, e1, s1, r1, p1⟩ => p1 σ W1 H1 (Ext.refl _ _) s1 (n.ext e1)⟩
theorem ms_ret (he : MEx X E e ce) : MS X E (.Return (some e) pos) (mRet ce) := (ps_ret he).imp fun Dn σ H ⟨W, η, m, s, n, p⟩ =>
  ⟨W, η, m, s, n, (PostS.bind (Rl := Rep X.K) p).imp fun x H1 ⟨W1, d, m1, e1, s1, r1, p1⟩ => p1 x W1 H1 (Ext.refl _ _) s1 r1⟩
theorem ms_if {c : Expr} {a b : List Stmt} {tc : TM} {ca cb : SM} (hc : MT X E c tc) (ha : MSs X E a ca) (hb : MSs X E b cb) : MS X E (.If c a b pos) (mIfS tc ca cb) := (ps_if hc ha hb).imp fun Dn σ H ⟨W, η, m, s, n, p⟩ =>
  ⟨W, η, m, s, n, (PostS.bind (Rl := Same') p).imp fun x H1 ⟨W1, d, m1, e1, s1, r1, p1⟩ => by
    cases (show d = x from r1)
    cases x with
    | true => rw [if_pos rfl] at p1 ⊢; exact ⟨W1, η, m1, s1, n.ext e1, p1⟩
    | false => rw [if_neg Bool.false_ne_true] at p1 ⊢; exact ⟨W1, η, m1, s1, n.ext e1, p1⟩⟩
/-! ### targets -/
theorem wipe_none {σ : SL} : ∀ {vs : List Nat} {i : Nat} {x : Option V}, i ∈ vs → wipe (σ.set i x) vs = wipe σ vs
  | v :: vs, i, x, h => by
    unfold wipe
    by_cases hi : i ∈ vs
    · rw [wipe_none hi]
    · have e : i = v := by
        rcases List.mem_cons.mp h with h | h
        · exact h
        · exact absurd h hi
      subst e
      rw [wipe_set hi]
      apply List.ext_getElem?
      intro j
      by_cases hj : i = j
      · subst hj
        by_cases hl : i < (wipe σ vs).length
        · rw [List.getElem?_set_self (by rw [List.length_set]; exact hl), List.getElem?_set_self hl]
        · rw [List.getElem?_eq_none (by rw [List.length_set, List.length_set]; omega), List.getElem?_eq_none (by rw [List.length_set]; omega)]
      · rw [List.getElem?_set_ne hj, List.getElem?_set_ne hj, List.getElem?_set_ne hj]
where
  wipe_set {σ : SL} : ∀ {vs : List Nat} {i : Nat} {x : Option V}, i ∉ vs → wipe (σ.set i x) vs = (wipe σ vs).set i x
    | [], i, x, h => rfl
    | v :: vs, i, x, h => by
      unfold wipe
      rw [wipe_set (fun q => h (List.mem_cons_of_mem _ q))]
      exact List.set_comm _ _ (fun e => h (by rw [e]; exact List.mem_cons_self))
theorem wipe_wipe' {σ : SL} : ∀ {us vs : List Nat}, (∀ u ∈ us, u ∈ vs) → wipe (wipe σ us) vs = wipe σ vs
  | [], vs, _ => rfl
  | u :: us, vs, h => by
    show wipe ((wipe σ us).set u none) vs = _
    rw [wipe_none (h u List.mem_cons_self), wipe_wipe' fun x hx => h x (List.mem_cons_of_mem _ hx)]
theorem wipe_wipe {σ : SL} {vs : List Nat} : wipe (wipe σ vs) vs = wipe σ vs := wipe_wipe' fun _ h => h
theorem mg_name {vs : List Nat} {i : Nat} {x : Str} (hv : i ∈ vs) (hN : X.N.Nodup) (hi : X.N[i]? = some x) (hx : Loc X.env.scope x) (hf : X.fn x = true ∨ X.env.scope.names.lookup x = some .local := by first | exact .inl rfl | exact .inr rfl | assumption) : MG X E Rep vs (.Name x pos) (gNm i) := by
  refine ⟨fun pins s σ H v u Q I r h => (pg_name hN hi hx hf).run pins s σ H v u Q I r ?_⟩
  obtain ⟨W, η, m, d, s, n, rp, p⟩ := h
  exact p.now s ⟨n.set rp, wipe_none hv⟩
theorem mgs_nil {vs : List Nat} : MGs X E vs [] gsNil := by
  refine ⟨fun pins s σ H us u Q I r h => pgs_nil.run pins s σ H us u Q I r ?_⟩
  obtain ⟨W, η, m, ds, s, n, rp, p⟩ := h
  cases ds with
  | nil => exact ⟨rp.nil', p.now s ⟨n, rfl⟩⟩
  | cons d ds => exact p.elim
theorem mgs_cons {vs : List Nat} {es : List Expr} {g : GM} {gs : GsM} (h1 : MG X E Rep vs e g) (h2 : MGs X E vs es gs) (hs : (assignEach (e :: es) X.env).map (·.2) = assign e X.env :: (assignEach es X.env).map (·.2) := by rfl) : MGs X E vs (e :: es) (gsCons g gs) := by
  refine ⟨fun pins s σ H us u Q I r h => (pgs_cons h1 h2 hs).run pins s σ H us u Q I r ?_⟩
  obtain ⟨W, η, m, ds, s, n, rp, p⟩ := h
  cases ds with
  | nil => exact p.elim
  | cons d ds =>
    obtain ⟨v, vr, rfl, r1, r2⟩ := rp.cons'
    refine ⟨v, vr, rfl, W, η, m, d, s, n, r1, (Post.bind (Rl := fun W H η' σ' => REnv X.K W H η' σ' ∧ wipe σ' vs = wipe σ vs) p).imp fun σ1 H1 ⟨W1, η1, m1, e1, s1, n1, p1⟩ => ?_⟩
    refine ⟨W1, η1, m1, ds, s1, n1.1, r2.ext e1, ?_⟩
    rw [n1.2]
    exact p1
theorem mg_tupW {vs : List Nat} {es : List Expr} {k : Nat} {gs : GsM} {n : Nat} (hc : X.calm = true) (h : MGs X E vs es gs) (hn : (assignEach es X.env).length = n := by rfl) (hst : (assignEach es X.env).findIdx? (·.1) = none := by rfl) : MG X E RepW vs (.Tuple es k pos) (gTp n gs) := by
  refine ⟨fun pins s σ H us u Q I r h' => (pg_tup hc h hn hst).run pins s σ H us u Q I r ?_⟩
  obtain ⟨W, η, m, d, s, nn, rp, p⟩ := h'
  have key : ∀ ds, d = .tup ds → (∃ a vs, us = .ref a ∧ SqT X.K H a vs ∧ Reps X.K W H ds vs) → ∃ a xs, us = .ref a ∧ SqT X.K H a xs ∧ xs.length = n ∧ rdGs X.K X.mg E vs gs xs σ H Q := fun ds e ⟨a, xs, e1, q1, q2⟩ => by
    subst e
    have p : Post X.K X.mg E _ W H Q (if ds.length = n then gs ds η m else .stk) := p
    by_cases hl : ds.length = n
    · rw [if_pos hl] at p
      exact ⟨a, xs, e1, q1, by rw [q2.length]; exact hl, W, η, m, ds, s, nn, q2, p⟩
    · rw [if_neg hl] at p
      exact p.elim
  rcases rp with rp | ⟨ds, a, xs, e0, e1, q1, q2⟩
  · cases d with
    | tup ds => exact key ds rfl rp.tup'
    | _ => exact p.elim
  · exact key ds e0 ⟨a, xs, e1, q1, q2⟩
theorem mg_w {vs : List Nat} {tg : Expr} {g : GM} (h : MG X E RepW vs tg g) : MG X E Rep vs tg g := ⟨fun pins s σ H v u Q I r h' => h.run pins s σ H v u Q I r (by
  obtain ⟨W, η, m, d, s, nn, rp, p⟩ := h'
  exact ⟨W, η, m, d, s, nn, .inl rp, p⟩)⟩
theorem mg_tup {vs : List Nat} {es : List Expr} {k : Nat} {gs : GsM} {n : Nat} (hc : X.calm = true) (h : MGs X E vs es gs) (hn : (assignEach es X.env).length = n := by rfl) (hst : (assignEach es X.env).findIdx? (·.1) = none := by rfl) : MG X E Rep vs (.Tuple es k pos) (gTp n gs) := mg_w (mg_tupW hc h hn hst)
theorem ms_asg {vs : List Nat} {tg : Expr} {g : GM} (he : MEx X E e ce) (hg : MG X E Rep vs tg g) (hs : swapsWithSole [tg] e pos.line X.env = pure false := by rfl) (hw : swappedStores [tg] e X.env = pure none := by rfl)
    (h1 : (assignEach [tg] X.env).map (·.2) = [assign tg X.env] := by rfl) : MS X E (.Assign [tg] e pos) (mAsg ce g) := (ps_asg he hg hs hw h1).imp fun Dn σ H ⟨W, η, m, s, n, p⟩ =>
  ⟨W, η, m, s, n, (PostS.bind (Rl := Rep X.K) p).imp fun x H1 ⟨W1, d, m1, e1, s1, r1, p1⟩ =>
    ⟨W1, η, m1, d, s1, n.ext e1, r1, (PostS.bind (Rl := fun W H η' σ' => REnv X.K W H η' σ' ∧ wipe σ' vs = wipe σ vs) p1).imp fun σ2 H2 ⟨W2, η2, m2, e2, s2, n2, p2⟩ => p2 σ2 W2 H2 (Ext.refl _ _) s2 n2.1⟩⟩
theorem ms_set {i : Nat} {x : Str} {pos' : Pos} (hN : X.N.Nodup) (hi : X.N[i]? = some x) (hx : Loc X.env.scope x) (he : MEx X E e ce) (hs : swapsWith e (some (.Name x pos')) pos.line X.env = pure false := by rfl) (hf : X.fn x = true ∨ X.env.scope.names.lookup x = some .local := by first | exact .inl rfl | exact .inr rfl | assumption) :
    MS X E (.Assign [.Name x pos'] e pos) (mAsg ce (gNm i)) := (ps_set hN hi hx he hs hf).imp fun Dn σ H ⟨W, η, m, s, n, p⟩ =>
  ⟨W, η, m, s, n, (PostS.bind (Rl := Rep X.K) p).imp fun x H1 ⟨W1, d, m1, e1, s1, r1, p1⟩ => p1 _ W1 H1 (Ext.refl _ _) s1 ((n.ext e1).set r1)⟩
end

/-! ### loops -/
abbrev Src := Nat → Mem → Option (Option D)
abbrev IM := Env' → Mem → R (Src × Nat)
structure JOk (K : PySem.W.Frag) (mg : Str → Option Value) (Rx : RX) (W₀ : Wd) (H₀ : Hp) (J : It) (src : Src) : Prop where
  go : ∀ W H m k d, ExtZ W₀ H₀ W H → Sim K mg W H m → src k m = some (some d) → J.go k H ∧ ∀ x H', J.yld k H x H' → ∃ W', Ext W H W' H' ∧ Sim K mg W' H' m ∧ Rx K W' H' d x
  stop : ∀ W H m k, ExtZ W₀ H₀ W H → Sim K mg W H m → src k m = some none → J.stop k H
def RlI (K : PySem.W.Frag) (mg : Str → Option Value) (Rx : RX) (W : Wd) (H : Hp) (p : Src × Nat) (J : It) : Prop := JOk K mg Rx W H J p.1
abbrev MI (X : Cx) (E : XK) (Rx : RX) (tg it : Expr) (c : IM) : Prop := PI X tg it (rd X.K X.mg E (RlI X.K X.mg Rx) c)
def mLoop (src : Src) (g : GM) (body : SM) : Nat → Nat → Env' → Mem → RS
  | 0, k, η, m => match src k m with
    | some none => .nxt η m
    | _ => .stk
  | f + 1, k, η, m => match src k m with
    | none => .stk
    | some none => .nxt η m
    | some (some d) => (g d η m).toS fun η1 m1 => match body η1 m1 with
      | .nxt η2 m2 => mLoop src g body f (k + 1) η2 m2
      | .cnt η2 m2 => mLoop src g body f (k + 1) η2 m2
      | .brk η2 m2 => .nxt η2 m2
      | r => r
def mFor (ci : IM) (g : GM) (body : SM) : SM := fun η m => (ci η m).toS fun p m1 => mLoop p.1 g body p.2 0 η m1
section
variable {X : Cx} {E : XK} {pos : Pos}
theorem ms_for {Rx : RX} {vs : List Nat} {tg it : Expr} {body : List Stmt} {ci : IM} {g : GM} {cb : SM} (hp : PassesOwn (model X.prog X.w) X.A X.env X.xe) (hc : X.calm = true) (hi : MI X E Rx tg it ci) (hg : MG X E Rx vs tg g) (hb : MSs X E body cb) (hs : ∀ x, foldedSetIterable it X.env x = pure x := by intro _; rfl) : MS X E (.For tg it body [] pos) (mFor ci g cb) := by
  refine (ps_for hp hc hi hg hb hs).imp fun Dn σ H ⟨W, η, m, s, n, p⟩ => ?_
  refine ⟨W, η, m, s, n, (PostS.bind (Rl := RlI X.K X.mg Rx) p).imp fun J H1 ⟨W1, q1, m1, e1, s1, j1, p1⟩ => ?_⟩
  obtain ⟨src, fuel⟩ := q1
  have j1 : JOk X.K X.mg Rx W1 H1 J src := j1
  have p1 : PostS X.K X.mg E W1 H1 Dn (mLoop src g cb fuel 0 η m1) := p1
  refine ⟨fun i f σ H => ∃ W η m, Ext W1 H1 W H ∧ Sim X.K X.mg W H m ∧ REnv X.K W H η σ ∧ PostS X.K X.mg E W H Dn (mLoop src g cb f i η m), ⟨fuel, W1, η, m1, Ext.refl _ _, s1, n.ext e1, p1⟩, fun i f σ H ⟨W, η, m, e2, s2, n2, p2⟩ => ?_⟩
  cases hs : src i m with
  | none => cases f <;> (unfold mLoop at p2; rw [hs] at p2; exact p2.elim)
  | some o =>
    cases o with
    | none =>
      refine .inl ⟨j1.stop W H m i e2.toZ s2 hs, ?_⟩
      cases f <;> (unfold mLoop at p2; rw [hs] at p2; exact p2 σ W H (Ext.refl _ _) s2 n2)
    | some d =>
      cases f with
      | zero => unfold mLoop at p2; rw [hs] at p2; exact p2.elim
      | succ f =>
        unfold mLoop at p2
        rw [hs] at p2
        obtain ⟨g1, g2⟩ := j1.go W H m i d e2.toZ s2 hs
        refine .inr ⟨g1, fun σ' H' => ∃ W η m, Ext W1 H1 W H' ∧ Sim X.K X.mg W H' m ∧ REnv X.K W H' η σ' ∧ PostS X.K X.mg E W H' Dn (mLoop src g cb f (i + 1) η m), fun σ' H' h => ⟨f, Nat.lt_succ_self f, h⟩, fun x H' hy => ?_⟩
        obtain ⟨W3, e3, s3, r3⟩ := g2 x H' hy
        refine ⟨W3, η, m, d, s3, n2.ext e3, r3, (PostS.bind (Rl := fun W H η' σ' => REnv X.K W H η' σ' ∧ wipe σ' vs = wipe σ vs) (PostS.ext e3 p2)).imp fun σ4 H4 ⟨W4, η4, m4, e4, s4, n4, p4⟩ => ?_⟩
        refine ⟨W4, η4, m4, s4, n4.1, ?_⟩
        have e34 := (e2.trans e3).trans e4
        revert p4
        generalize cb η4 m4 = r
        intro p4
        cases r with
        | nxt η5 m5 => exact fun σ5 W5 H5 e5 s5 n5 => ⟨W5, η5, m5, e34.trans e5, s5, n5, PostS.ext e5 p4⟩
        | cnt η5 m5 => exact fun σ5 W5 H5 e5 s5 n5 => ⟨W5, η5, m5, e34.trans e5, s5, n5, PostS.ext e5 p4⟩
        | brk η5 m5 => exact p4
        | ret d5 m5 => exact p4
        | exc x5 m5 => exact p4
        | stk => exact p4
end

/-! ### comprehensions -/
def noX {α : Type} : R α → R α
  | .exc _ _ => .stk
  | r => r
@[simp] theorem noX_ok {α : Type} (a : α) (m : Mem) : noX (.ok a m) = .ok a m := nr rfl
@[simp] theorem noX_stk {α : Type} : noX (.stk : R α) = .stk := nr rfl
@[simp] theorem noX_exc {α : Type} (x : Exn) (m : Mem) : noX (.exc x m : R α) = .stk := nr rfl
theorem Post.nox {K : PySem.W.Frag} {mg : Str → Option Value} {E E' : XK} {W : Wd} {H : Hp} {α β : Type} {Rl : Wd → Hp → α → β → Prop} {Q : β → Hp → Prop} {r : R α} (h : Post K mg E Rl W H Q (noX r)) : Post K mg E' Rl W H Q r := by
  cases r with
  | ok a m => exact h
  | exc x m => exact h.elim
  | stk => exact h.elim
def wipeE (η : Env') : List Nat → Env'
  | [] => η
  | v :: vs => (wipeE η vs).set v none
theorem REnv.wipe {K : PySem.W.Frag} {W : Wd} {H : Hp} {η : Env'} {σ : SL} (h : REnv K W H η σ) : ∀ vs : List Nat, REnv K W H (wipeE η vs) (L2.wipe σ vs)
  | [] => h
  | v :: vs => by
    have ih := h.wipe vs
    refine ⟨?_, fun i d q => ?_⟩
    · show ((wipeE η vs).set v none).length = ((L2.wipe σ vs).set v none).length
      rw [List.length_set, List.length_set]
      exact ih.1
    · have q : ((wipeE η vs).set v none)[i]? = some (some d) := q
      by_cases hv : v = i
      · subst hv
        by_cases hl : v < (wipeE η vs).length
        · rw [List.getElem?_set_self hl] at q
          cases q
        · rw [List.getElem?_eq_none (by rw [List.length_set]; omega)] at q
          cases q
      · rw [List.getElem?_set_ne hv] at q
        obtain ⟨u, a, b⟩ := ih.2 i d q
        refine ⟨u, ?_, b⟩
        show ((L2.wipe σ vs).set v none)[i]? = _
        rw [List.getElem?_set_ne hv]
        exact a
def mLcL (src : Src) (g : GM) (t : TM) (e : EM) (η : Env') : Nat → Nat → Mem → List D → R (List D)
  | 0, k, m, acc => match src k m with
    | some none => .ok acc m
    | _ => .stk
  | f + 1, k, m, acc => match src k m with
    | none => .stk
    | some none => .ok acc m
    | some (some d) => (noX (g d η m)).bind fun η1 m1 => (noX (t η1 m1)).bind fun b m2 =>
      if b = true then (noX (e η1 m2)).bind fun y m3 => if acc.length < sizeLine then mLcL src g t e η f (k + 1) m3 (acc ++ [y]) else .stk
      else mLcL src g t e η f (k + 1) m2 acc
def mLc (vs : List Nat) (al : Bool) (ci : IM) (g : GM) (t : TM) (e : EM) : EM := fun η m => (ci η m).bind fun p m1 => (mLcL p.1 g t e (wipeE η vs) p.2 0 m1 []).bind fun acc m2 => mkL al acc m2
def mYes : TM := fun _ m => .ok true m
/-- a scratch address more -/
def Wd.scr (W : Wd) (p : Addr) : Wd := ⟨W.i, p :: W.z⟩
section
variable {K : PySem.W.Frag} {mg : Str → Option Value} {W W' : Wd} {H H' : Hp} {m : Mem} {p : Addr} {o o' : HO}
theorem ExtZ.scr (s : Sim K mg W H m) (h : H p = none) : ExtZ W H (W.scr p) (upd H p o) :=
  ⟨fun a ha hn => by
    rcases List.mem_cons.mp ha with e | e
    · rw [e]; exact h
    · exact absurd e hn, fun a ha => List.mem_cons_of_mem _ ha, ⟨[], by simp [Wd.scr]⟩, fun a ha hn => absurd ha hn, fun a u e _ => by rw [upd_ne (ne_of_none e h)]; exact e⟩
theorem _root_.Mir.XFs.tr {fs : List (Str × D)} {o : Option Addr} (e : Tr K W H W' H') (h : XFs K W H fs o) : XFs K W' H' fs o := by
  rcases h with h | ⟨d, gs, e1, e2, e3, e4⟩
  · exact .inl h
  · exact .inr ⟨d, gs, e1, e.ls _ _ e2, e3, Reps.tr e e4⟩
theorem CellOk.tr {a : Addr} {c : Cell} (e : Tr K W H W' H') (ha : H' a = H a) (h : CellOk K mg W H a c) : CellOk K mg W' H' a c := by
  cases c with
  | lst ds => obtain ⟨vs, e1, e2⟩ := h; exact ⟨vs, ha.trans e1, Reps.tr e e2⟩
  | dK kvs => obtain ⟨vs, e1, e2, e3⟩ := h; exact ⟨vs, ha.trans e1, e2, Reps.tr e e3⟩
  | dT kvs => obtain ⟨vs, e1, e2, e3, e4⟩ := h; exact ⟨vs, ha.trans e1, e2, fun x hx => e.tp _ _ (e3 x hx), Reps.tr e e4⟩
  | dKz kvs => obtain ⟨o, vs, e1, e2, e3⟩ := h; exact ⟨o, vs, ha.trans e1, e2, Reps.tr e e3⟩
  | dTz kvs => obtain ⟨o, vs, e1, e2, e3, e4⟩ := h; exact ⟨o, vs, ha.trans e1, e2, fun x hx => e.tp _ _ (e3 x hx), Reps.tr e e4⟩
  | ins c fs => obtain ⟨C, dx, fs', e0, e1, e2, e3⟩ := h; exact ⟨C, dx, fs', e0, ha.trans e1, e2, Reps.tr e e3⟩
  | exc c fs => obtain ⟨C, o, e0, e1, e2⟩ := h; exact ⟨C, o, e0, ha.trans e1, e2.tr e⟩
  | tab x q => obtain ⟨ps, e1, e2, e3, e4⟩ := h; exact ⟨ps, ha.trans e1, e2, e3, fun pos cv hc => let ⟨c, z1, z2⟩ := e4 pos cv hc; ⟨c, z1, e.ls _ _ z2⟩⟩
  | dX hs kvs => obtain ⟨vs, e1, e2, e3, e4⟩ := h; exact ⟨vs, ha.trans e1, e2, fun x hx => e.tp _ _ (e3 x hx), Reps.tr e e4⟩
theorem Sim.scr (s : Sim K mg W H m) (h : H p = none) : Sim K mg (W.scr p) (upd H p o) m :=
  ⟨s.nd, s.len, fun i a c e1 e2 => (s.cell i a c e1 e2).tr (ExtZ.scr s h).tr (by
    obtain ⟨u, e, _⟩ := (s.cell i a c e1 e2).mut
    exact upd_ne (ne_of_none e h)), fun a ha hz => by
    rcases List.mem_cons.mp hz with e | e
    · rw [e] at ha
      exact s.nin h ha
    · exact s.sep a ha e, fun a ha => by
    rcases List.mem_cons.mp ha with e | e
    · rw [e]; exact ⟨_, upd_same⟩
    · exact upd_some (s.zs a e)⟩
/-- the scratch object changes -/
theorem Tr.scr (hp : p ∈ W.z) (h : H p = some o) (hi : immut o = false) : Tr K W H W (upd H p o') := by
  refine ⟨fun _ _ h => h, fun a vs k => ?_, fun a vs k => ?_, fun a vs k => ?_⟩
  · rcases k with ⟨u, k, k2⟩ | k
    · exact .inl ⟨u, by
        rw [upd_ne (fun e => by subst e; rw [h] at k; cases k; cases hi)]
        exact k, k2⟩
    · exact .inr k
  · have : a ≠ p := fun e => k.2.2 (e ▸ hp)
    exact ⟨by rw [upd_ne this]; exact k.1, k.2⟩
  · rcases k with ⟨k, k1, k2⟩ | k
    · have : a ≠ p := fun e => k2 (e ▸ hp)
      refine .inl ⟨?_, k1, k2⟩
      rcases k with k | ⟨u, k⟩
      · exact .inl (by rw [upd_ne this]; exact k)
      · exact .inr ⟨u, by rw [upd_ne this]; exact k⟩
    · exact .inr k
theorem Sim.mscr (s : Sim K mg W H m) (hp : p ∈ W.z) (h : H p = some o) (hi : immut o = false) : Sim K mg W (upd H p o') m :=
  ⟨s.nd, s.len, fun i a c e1 e2 => (s.cell i a c e1 e2).tr (Tr.scr hp h hi) (upd_ne fun e => s.sep a (List.mem_of_getElem? e1) (e ▸ hp)), s.sep, fun a ha => upd_some (s.zs a ha)⟩
theorem ExtZ.mscr {W₀ : Wd} {H₀ : Hp} (e : ExtZ W₀ H₀ W H) (hp : H₀ p = none) : ExtZ W₀ H₀ W (upd H p o') :=
  ⟨e.z, e.zs, e.pre, e.new, fun a u q k => by rw [upd_ne (ne_of_none q hp)]; exact e.keep a u q k⟩
/-- the scratch address is given back -/
theorem Tr.unscr : Tr K (W.scr p) H W H := by
  refine ⟨fun _ _ h => h, fun _ _ h => h, fun a vs h => ⟨h.1, h.2.1, fun q => h.2.2 (List.mem_cons_of_mem _ q)⟩, fun a vs h => ?_⟩
  rcases h with ⟨k, k1, k2⟩ | k
  · exact .inl ⟨k, k1, fun q => k2 (List.mem_cons_of_mem _ q)⟩
  · exact .inr k
theorem Sim.unscr (s : Sim K mg (W.scr p) H m) : Sim K mg W H m :=
  ⟨s.nd, s.len, fun i a c e1 e2 => (s.cell i a c e1 e2).tr Tr.unscr rfl, fun a ha hz => s.sep a ha (List.mem_cons_of_mem _ hz), fun a ha => s.zs a (List.mem_cons_of_mem _ ha)⟩
end
section
variable {X : Cx} {E : XK} {pos : Pos}
theorem lc_of {Rx : RX} {vs : List Nat} {al : Bool} {ci : IM} {g : GM} {t : TM} {e : EM} {σ : SL} {H : Hp} {Q : VK} (h : rdE X.K X.mg E (mLc vs al ci g t e) σ H Q) :
    tLc (rd X.K X.mg E (RlI X.K X.mg Rx) ci) (rdG X.K X.mg E0 Rx vs g) (rdT X.K X.mg E0 t) (rdE X.K X.mg E0 e) vs σ H Q := by
  obtain ⟨W, η, m, s, n, p⟩ := h
  refine ⟨W, η, m, s, n, (Post.bind (Rl := RlI X.K X.mg Rx) p).imp fun J H1 ⟨W1, q1, m1, e1, s1, j1, p1⟩ => ?_⟩
  obtain ⟨src, fuel⟩ := q1
  have j1 : JOk X.K X.mg Rx W1 H1 J src := j1
  intro A hA
  have n1 := n.ext e1
  have p1 : Post X.K X.mg E (Rep X.K) W1 H1 Q ((mLcL src g t e (wipeE η vs) fuel 0 m1 []).bind fun acc m2 => mkL al acc m2) := p1
  refine ⟨fun i f H => ∃ W m acc as, ExtZ W1 H1 (W.scr A) H ∧ Ext W1 H1 W H ∧ Sim X.K X.mg (W.scr A) H m ∧ H A = some (.lst as) ∧ Reps X.K (W.scr A) H acc as ∧ acc.length ≤ sizeLine ∧
      Post X.K X.mg E (Rep X.K) W1 H1 Q ((mLcL src g t e (wipeE η vs) f i m acc).bind fun acc m2 => mkL al acc m2),
    ⟨fuel, W1, m1, [], [], ExtZ.scr s1 hA, Ext.fresh hA, s1.scr hA, upd_same, reps_nil, Nat.zero_le _, p1⟩, fun i f H ⟨W, m, acc, as, ez, ex, s2, hAs, ra, hl, p2⟩ => ?_⟩
  have hAz : A ∈ (W.scr A).z := List.mem_cons_self
  have nW : REnv X.K (W.scr A) H (wipeE η vs) (L2.wipe σ vs) := by
    have := n1.wipe vs
    exact ⟨this.1, fun j d q => let ⟨v, a, b⟩ := this.2 j d q; ⟨v, a, b.extZ ez⟩⟩
  have fin : Post X.K X.mg E (Rep X.K) W1 H1 Q (mkL al acc m) → Q (.ref A) H := fun q => by
    have s3 := s2.unscr
    have hni : A ∉ W.i := fun hx => s2.sep A hx hAz
    have hz : A ∉ W.z := by
      rw [ex.z]
      exact s1.ninz hA
    have ra' := Reps.tr (Tr.unscr) ra
    cases al with
    | false => exact q (.ref A) W H ex s3 (rep_lst ⟨hAs, hni, hz⟩ ra')
    | true =>
      have e3 : Ext W1 H1 (W.add A) H := by
        obtain ⟨tt, et⟩ := ex.pre
        refine ⟨ex.z, ⟨tt ++ [A], by show W.i ++ [A] = _; rw [et, List.append_assoc]⟩, fun a ha hn => ?_, ex.keep⟩
        rcases List.mem_append.mp ha with ha | ha
        · exact ex.new a ha hn
        · have : a = A := by simpa using ha
          subst this
          exact ⟨hA, s1.ninz hA⟩
      have tr : Tr X.K (W.scr A) H (W.add A) H := by
        refine ⟨fun j a h => ?_, fun _ _ h => h, fun a vs h => ⟨h.1, fun ha => ?_, fun q => h.2.2 (List.mem_cons_of_mem _ q)⟩, fun a vs h => ?_⟩
        · have h : W.i[j]? = some a := h
          show (W.i ++ [A])[j]? = some a
          rw [List.getElem?_append_left (List.getElem?_eq_some_iff.mp h).1]
          exact h
        · rcases List.mem_append.mp ha with ha | ha
          · exact h.2.1 ha
          · have : a = A := by simpa using ha
            exact h.2.2 (this ▸ hAz)
        · rcases h with ⟨k, k1, k2⟩ | k
          · refine .inl ⟨k, fun ha => ?_, fun q => k2 (List.mem_cons_of_mem _ q)⟩
            rcases List.mem_append.mp ha with ha | ha
            · exact k1 ha
            · have : a = A := by simpa using ha
              exact k2 (this ▸ hAz)
          · exact .inr k
      refine q (.ref A) (W.add A) H e3 ⟨?_, ?_, fun j a c h1 h2 => ?_, fun a ha => ?_, s3.zs⟩ (rep_ref ?_)
      · refine List.nodup_append.mpr ⟨s3.nd, by simp, fun a ha b hb => ?_⟩
        rintro rfl
        have : a = A := by simpa using hb
        exact hni (this ▸ ha)
      · show (W.i ++ [A]).length = (m ++ [Cell.lst acc]).length
        rw [List.length_append, List.length_append, s3.len]
        rfl
      · have h1 : (W.i ++ [A])[j]? = some a := h1
        by_cases hj : j < W.i.length
        · rw [List.getElem?_append_left hj] at h1
          rw [List.getElem?_append_left (by rw [← s3.len]; exact hj)] at h2
          exact (s2.cell j a c h1 h2).tr tr rfl
        · have hj' : j = W.i.length := by
            have := (List.getElem?_eq_some_iff.mp h1).1
            rw [List.length_append] at this
            simp at this
            omega
          subst hj'
          rw [List.getElem?_append_right (Nat.le_refl _), Nat.sub_self] at h1
          rw [s3.len, List.getElem?_append_right (Nat.le_refl _), Nat.sub_self] at h2
          simp at h1 h2
          subst h1
          subst h2
          exact ⟨as, hAs, Reps.tr tr ra⟩
      · rcases List.mem_append.mp ha with ha | ha
        · exact s3.sep a ha
        · have : a = A := by simpa using ha
          rw [this]
          exact hz
      · show (W.i ++ [A])[m.length]? = some A
        rw [← s3.len, List.getElem?_append_right (Nat.le_refl _), Nat.sub_self]
        rfl
  cases hs : src i m with
  | none => cases f <;> (unfold mLcL at p2; rw [hs] at p2; exact p2.elim)
  | some o =>
    cases o with
    | none =>
      refine .inl ⟨j1.stop _ H m i ez s2 hs, fin ?_⟩
      cases f <;> (unfold mLcL at p2; rw [hs] at p2; exact p2)
    | some d =>
      cases f with
      | zero => unfold mLcL at p2; rw [hs] at p2; exact p2.elim
      | succ f =>
        unfold mLcL at p2
        rw [hs] at p2
        dsimp only at p2
        obtain ⟨g1, g2⟩ := j1.go _ H m i d ez s2 hs
        refine .inr ⟨g1, fun H' => ∃ W m acc as, ExtZ W1 H1 (W.scr A) H' ∧ Ext W1 H1 W H' ∧ Sim X.K X.mg (W.scr A) H' m ∧ H' A = some (.lst as) ∧ Reps X.K (W.scr A) H' acc as ∧ acc.length ≤ sizeLine ∧
          Post X.K X.mg E (Rep X.K) W1 H1 Q ((mLcL src g t e (wipeE η vs) f (i + 1) m acc).bind fun acc m2 => mkL al acc m2), fun H' h => ⟨f, Nat.lt_succ_self f, h⟩, fun x H' hy => ?_⟩
        obtain ⟨W3, e3, s3, r3⟩ := g2 x H' hy
        -- the scratch list stays through a step
        have keepA : ∀ {Wb : Wd} {Hb : Hp}, Ext (W.scr A) H Wb Hb → Hb A = some (.lst as) := fun e => e.keep A _ hAs (.inr fun hx => s2.sep A hx hAz)
        have back : ∀ {Wb : Wd} {Hb : Hp}, Ext (W.scr A) H Wb Hb → Wb = (Wd.mk Wb.i W.z).scr A := fun {Wb Hb} e => by
          have := e.z
          cases Wb
          simp only [Wd.scr] at this ⊢
          rw [this]
        have exb : ∀ {Wb : Wd} {Hb : Hp}, Ext (W.scr A) H Wb Hb → Ext W1 H1 (Wd.mk Wb.i W.z) Hb := fun {Wb Hb} e => by
          refine ⟨ex.z, (ez.trans e).pre, fun a ha hn => ⟨(ez.trans e).new a ha hn, ?_⟩, (ez.trans e).keep⟩
          intro hz
          by_cases hw : a ∈ W.i
          · exact (ex.new a hw hn).2 hz
          · have := (e.new a ha hw).2
            exact this (List.mem_cons_of_mem _ (by rw [ex.z]; exact hz))
        cases hg : g d (wipeE η vs) m with
        | stk => rw [hg] at p2; exact p2.elim
        | exc x m' => rw [hg] at p2; exact p2.elim
        | ok η4 m4 =>
          rw [hg] at p2
          refine ⟨W3, wipeE η vs, m, d, s3, nW.ext e3, r3, ?_⟩
          rw [hg]
          intro σ4 W4 H4 e4 s4 n4
          refine ⟨by rw [n4.2, wipe_wipe], ?_⟩
          have e34 := e3.trans e4
          have p2 : Post X.K X.mg E (Rep X.K) W1 H1 Q (((noX (t η4 m4)).bind fun b m2 => if b = true then (noX (e η4 m2)).bind fun y m3 => if acc.length < sizeLine then mLcL src g t e (wipeE η vs) f (i + 1) m3 (acc ++ [y]) else .stk
            else mLcL src g t e (wipeE η vs) f (i + 1) m2 acc).bind fun acc m2 => mkL al acc m2) := p2
          cases ht : t η4 m4 with
          | stk => rw [ht] at p2; exact p2.elim
          | exc x m' => rw [ht] at p2; exact p2.elim
          | ok b m5 =>
            rw [ht] at p2
            refine ⟨W4, η4, m4, s4, n4.1, ?_⟩
            rw [ht]
            intro b' W5 H5 e5 s5 hb
            cases (show b = b' from hb)
            have e35 := e34.trans e5
            cases b with
            | false =>
              rw [if_neg Bool.false_ne_true]
              refine ⟨Wd.mk W5.i W.z, m5, acc, as, ?_, exb e35, ?_, keepA e35, ?_, hl, p2⟩
              · rw [← back e35]
                exact ez.trans e35
              · rw [← back e35]
                exact s5
              · rw [← back e35]
                exact ra.ext e35
            | true =>
              rw [if_pos rfl]
              have p2 : Post X.K X.mg E (Rep X.K) W1 H1 Q (((noX (e η4 m5)).bind fun y m3 => if acc.length < sizeLine then mLcL src g t e (wipeE η vs) f (i + 1) m3 (acc ++ [y]) else .stk).bind fun acc m2 => mkL al acc m2) := p2
              cases he : e η4 m5 with
              | stk => rw [he] at p2; exact p2.elim
              | exc x m' => rw [he] at p2; exact p2.elim
              | ok y m6 =>
                rw [he] at p2
                have p2 : Post X.K X.mg E (Rep X.K) W1 H1 Q ((if acc.length < sizeLine then mLcL src g t e (wipeE η vs) f (i + 1) m6 (acc ++ [y]) else .stk).bind fun acc m2 => mkL al acc m2) := p2
                by_cases hlt : acc.length < sizeLine
                · rw [if_pos hlt] at p2
                  refine ⟨W5, η4, m5, s5, n4.1.ext e5, ?_⟩
                  rw [he]
                  intro v W6 H6 e6 s6 r6
                  have e36 := e35.trans e6
                  have hA6 := keepA e36
                  refine ⟨as, hA6, by rw [ra.length]; exact hlt, Wd.mk W6.i W.z, m6, acc ++ [y], as ++ [v], ?_, ?_, ?_, upd_same, ?_, ?_, p2⟩
                  · rw [← back e36]
                    exact (ez.trans e36).mscr hA
                  · have q := exb e36
                    exact ⟨q.z, q.pre, q.new, fun a o h k => by rw [upd_ne (ne_of_none h hA)]; exact q.keep a o h k⟩
                  · rw [← back e36]
                    exact s6.mscr (by rw [e36.z]; exact hAz) hA6 rfl
                  · rw [← back e36]
                    have z6 : A ∈ W6.z := by rw [e36.z]; exact hAz
                    exact Reps.tr (Tr.scr z6 hA6 rfl) ((ra.ext e36).append (reps_one r6))
                  · rw [List.length_append]
                    exact hlt
                · rw [if_neg hlt] at p2
                  exact p2.elim
end
end Mir

/-! Mir, operations. -/
namespace Mir
open PySem PySem.Spec PyProof.Rows L2

/-! ### numbers -/
def gSub : D → D → Mem → R D
  | .int i, .int j, m => .ok (.int (i - j)) m
  | _, _, _ => .stk
def mulOk (i j : Int) : Prop := i.natAbs < 2 ^ 64 ∨ j.natAbs < 2 ^ 64 ∨ i.natAbs.log2 + j.natAbs.log2 < 1000000
instance (i j : Int) : Decidable (mulOk i j) := by unfold mulOk; infer_instance
def divOk (j : Int) : Prop := j ≠ 0 ∧ j.natAbs.log2 < 9000
instance (j : Int) : Decidable (divOk j) := by unfold divOk; infer_instance
def powOk (i j : Int) : Prop := 0 ≤ j ∧ j ≤ 1000000 ∧ i.natAbs < 2 ^ 64
instance (i j : Int) : Decidable (powOk i j) := by unfold powOk; infer_instance
def gMulI : D → D → Mem → R D
  | .int i, .int j, m => if mulOk i j then .ok (.int (i * j)) m else .stk
  | _, _, _ => .stk
def gFdiv : D → D → Mem → R D
  | .int i, .int j, m => if divOk j then .ok (.int (i.fdiv j)) m else .stk
  | _, _, _ => .stk
def gMod : D → D → Mem → R D
  | .int i, .int j, m => if j = 0 then .stk else .ok (.int (i.fmod j)) m
  | _, _, _ => .stk
def gPow : D → D → Mem → R D
  | .int i, .int j, m => if powOk i j then .ok (.int (i ^ j.toNat)) m else .stk
  | _, _, _ => .stk
def gNeg : D → Mem → R D
  | .int i, m => .ok (.int (-i)) m
  | _, _ => .stk
section
variable {X : Cx} {E : XK}
theorem om_sub : OpM X E (binaryOp .Sub) gSub := by
  rintro pins s σ H x y v u Q I rx ry ⟨W, m, d, e, sm, rd, re, p⟩
  cases d <;> try exact p.elim
  cases e <;> try exact p.elim
  rw [rd.int'] at rx; rw [re.int'] at ry
  exact op_sub pins s σ H _ _ v u Q I rx ry ⟨_, _, rfl, rfl, p.now sm rep_int⟩
theorem om_mul : OpM X E (binaryOp .Mult) gMulI := by
  rintro pins s σ H x y v u Q I rx ry ⟨W, m, d, e, sm, rd, re, p⟩
  cases d <;> try exact p.elim
  cases e <;> try exact p.elim
  rename_i i j
  rw [rd.int'] at rx; rw [re.int'] at ry
  unfold gMulI at p
  by_cases h : mulOk i j
  · simp only [h, if_true] at p
    rcases h with h | h | h
    · exact op_mul pins s σ H _ _ v u Q I rx ry ⟨_, _, rfl, rfl, .inl ⟨by omega, by omega⟩, p.now sm rep_int⟩
    · exact op_mul pins s σ H _ _ v u Q I rx ry ⟨_, _, rfl, rfl, .inr ⟨by omega, by omega⟩, p.now sm rep_int⟩
    · exact op_mulW pins s σ H _ _ v u Q I rx ry ⟨_, _, rfl, rfl, h, p.now sm rep_int⟩
  · simp only [h, if_false] at p
    exact p.elim
theorem om_fdiv : OpM X E (binaryOp .FloorDiv) gFdiv := by
  rintro pins s σ H x y v u Q I rx ry ⟨W, m, d, e, sm, rd, re, p⟩
  cases d <;> try exact p.elim
  cases e <;> try exact p.elim
  rename_i i j
  rw [rd.int'] at rx; rw [re.int'] at ry
  unfold gFdiv at p
  by_cases h : divOk j
  · simp only [h, if_true] at p
    have ho : OpR X (binaryOp .FloorDiv) (rI (fun _ j => divOk j) fun i j => .int (i.fdiv j)) := opI fun _ _ _ _ _ _ _ hc q => floordiv_int hc.1 q (.inl (PyProof.noPylong_of_log2 hc.2))
    exact ho pins s σ H _ _ v u Q I rx ry ⟨_, _, rfl, rfl, h, p.now sm rep_int⟩
  · simp only [h, if_false] at p
    exact p.elim
theorem om_mod : OpM X E (binaryOp .Mod) gMod := by
  rintro pins s σ H x y v u Q I rx ry ⟨W, m, d, e, sm, rd, re, p⟩
  cases d <;> try exact p.elim
  cases e <;> try exact p.elim
  rename_i i j
  rw [rd.int'] at rx; rw [re.int'] at ry
  unfold gMod at p
  by_cases h : j = 0
  · simp only [h, if_true] at p
    exact p.elim
  · simp only [h, if_false] at p
    exact op_modN pins s σ H _ _ v u Q I rx ry ⟨_, _, rfl, rfl, h, p.now sm rep_int⟩
theorem om_pow : OpM X E (binaryOp .Pow) gPow := by
  rintro pins s σ H x y v u Q I rx ry ⟨W, m, d, e, sm, rd, re, p⟩
  cases d <;> try exact p.elim
  cases e <;> try exact p.elim
  rename_i i j
  rw [rd.int'] at rx; rw [re.int'] at ry
  unfold gPow at p
  by_cases h : powOk i j
  · simp only [h, if_true] at p
    exact op_pow pins s σ H _ _ v u Q I rx ry ⟨_, _, rfl, rfl, h, p.now sm rep_int⟩
  · simp only [h, if_false] at p
    exact p.elim
theorem um_neg : UnR X (unaryOp .USub) (rU1 X.K X.mg E gNeg) := by
  rintro pins s σ H x v Q I rx ⟨W, m, d, sm, rd, p⟩
  cases d <;> try exact p.elim
  rw [rd.int'] at rx
  exact un_neg pins s σ H _ v Q I rx ⟨_, rfl, p.now sm rep_int⟩
end

/-! ### + -/
def catL (al : Bool) (m : Mem) : Option (List D) → Option (List D) → R D
  | some xs, some ys => if xs.length + ys.length ≤ sizeLine then mkL al (xs ++ ys) m else .stk
  | _, _ => .stk
def gAdd (al : Bool) (d e : D) (m : Mem) : R D := match d, e with
  | .int i, .int j => .ok (.int (i + j)) m
  | .str x, .str y => if x.length + y.length ≤ sizeLine then .ok (.str (x ++ y)) m else .stk
  | .tup xs, .tup ys => if xs.length + ys.length ≤ sizeLine then .ok (.tup (xs ++ ys)) m else .stk
  | d, e => catL al m (lstOwn m d) (lstOwn m e)
@[simp] theorem gAdd_int (al : Bool) (i j : Int) (m : Mem) : gAdd al (.int i) (.int j) m = .ok (.int (i + j)) m := nr rfl
section
variable {X : Cx} {E : XK}
theorem om_cat {al : Bool} {pins : List (Addr × Obj)} {s : Shared} {σ : SL} {H : Hp} {x y : V} {v u : Value} {Q : VK} {W : Wd} {m : Mem} {d e : D} (I : Inv X pins σ H s) (rx : RelV x v) (ry : RelV y u) (sm : Sim X.K X.mg W H m) (rd : Rep X.K W H d x) (re : Rep X.K W H e y)
    (p : Post X.K X.mg E (Rep X.K) W H Q (catL al m (lstOwn m d) (lstOwn m e))) : wpAny (model X.prog X.w) X.A (binaryOp .Add v u) (EP X pins σ Q) X.xe s := by
  cases h1 : lstOwn m d with
  | none => rw [h1] at p; exact p.elim
  | some xs =>
    cases h2 : lstOwn m e with
    | none => rw [h1, h2] at p; exact p.elim
    | some ys =>
      rw [h1, h2] at p
      have p : Post X.K X.mg E (Rep X.K) W H Q (if xs.length + ys.length ≤ sizeLine then mkL al (xs ++ ys) m else .stk) := p
      obtain ⟨a, vs, rfl, q1, q2⟩ := sm.own rd h1
      obtain ⟨b, us, rfl, q3, q4⟩ := sm.own re h2
      by_cases hl : xs.length + ys.length ≤ sizeLine
      · rw [if_pos hl] at p
        exact op_cat pins s σ H _ _ v u Q I rx ry ⟨a, b, vs, us, rfl, rfl, q1, q3, by rw [q2.length, q4.length]; exact hl, fun pp hp => sm.newL hp (q2.append q4) p⟩
      · rw [if_neg hl] at p
        exact p.elim
theorem om_add (al : Bool) : OpM X E (binaryOp .Add) (gAdd al) := by
  rintro pins s σ H x y v u Q I rx ry ⟨W, m, d, e, sm, rd, re, p⟩
  unfold gAdd at p
  split at p
  · rw [rd.int'] at rx; rw [re.int'] at ry
    exact op_add pins s σ H _ _ v u Q I rx ry ⟨_, _, rfl, rfl, p.now sm rep_int⟩
  · rw [rd.str'] at rx; rw [re.str'] at ry
    split at p
    · rename_i hl
      exact op_add_str pins s σ H _ _ v u Q I rx ry ⟨_, _, rfl, rfl, hl, p.now sm rep_str⟩
    · exact p.elim
  · rename_i xs ys
    obtain ⟨a, vs, rfl, q1, q2⟩ := rd.tupF'
    obtain ⟨b, us, rfl, q3, q4⟩ := re.tupF'
    split at p
    · rename_i hl
      refine op_catF pins s σ H _ _ v u Q I rx ry ⟨a, b, vs, us, rfl, rfl, q1.t, q3.t, by rw [q2.length, q4.length]; exact hl, fun e => ?_, fun e1 e2 => ?_, fun _ _ pp oo hp ho => sm.newT hp ho (q2.append q4) p⟩
      · have : xs = [] := by
          have := q2.length
          rw [e] at this
          exact List.length_eq_zero_iff.mp this.symm
        subst this
        exact p.now sm (rep_tup q3 q4)
      · have : ys = [] := by
          have := q4.length
          rw [e2] at this
          exact List.length_eq_zero_iff.mp this.symm
        subst this
        rw [List.append_nil] at p
        exact p.now sm (rep_tup q1 q2)
    · exact p.elim
  · exact om_cat I rx ry sm rd re p
end

/-! ### == -/
def mapO {α β : Type} (f : α → Option β) : List α → Option (List β)
  | [] => some []
  | d :: ds => match f d, mapO f ds with
    | some a, some as => some (a :: as)
    | _, _ => none
def toP (m : Mem) : Nat → D → Option PyData
  | 0, _ => none
  | n + 1, d => match d with
    | .non => some .none
    | .bl b => some (.bool b)
    | .int i => some (.int i)
    | .str x => if PyData.strOk x = true then some (.str x) else none
    | .tup ds => (mapO (toP m n) ds).map .tuple
    | .lst ds => (mapO (toP m n) ds).map .list
    | .scr ds => (mapO (toP m n) ds).map .list
    | .ref i => ((lstC m[i]?).bind fun ds => mapO (toP m n) ds).map .list
    | .fn _ => none
theorem mapO_cons {α β : Type} {f : α → Option β} {d : α} {ds : List α} {bs : List β} (h : mapO f (d :: ds) = some bs) : ∃ a as, bs = a :: as ∧ f d = some a ∧ mapO f ds = some as := by
  unfold mapO at h
  cases h1 : f d with
  | none => rw [h1] at h; simp at h
  | some a =>
    cases h2 : mapO f ds with
    | none => rw [h1, h2] at h; simp at h
    | some as => rw [h1, h2] at h; simp at h; exact ⟨a, as, h.symm, rfl, rfl⟩
section
variable {X : Cx} {E : XK} {W : Wd} {H : Hp} {m : Mem}
def POk (K : PySem.W.Frag) (H : Hp) (v : V) (p : PyData) (n : Nat) : Prop := Dp K H v p ∧ p.canLay0 = true ∧ p.depth ≤ n
theorem toP_all {n : Nat} (ih : ∀ (d : D) (v : V) (p : PyData), Rep X.K W H d v → toP m n d = some p → POk X.K H v p n) : ∀ (ds : List D) (vs : List V) (ps : List PyData), Reps X.K W H ds vs → mapO (toP m n) ds = some ps → DpAll X.K H vs ps ∧ PyData.canLayAll0 ps = true ∧ PyData.depthAll ps ≤ n
  | [], vs, ps, r, h => by
    rw [r.nil']
    cases h
    exact ⟨.nil, rfl, Nat.zero_le _⟩
  | d :: ds, vs, ps, r, h => by
    obtain ⟨v, vr, rfl, r1, r2⟩ := r.cons'
    obtain ⟨a, as, rfl, h1, h2⟩ := mapO_cons h
    obtain ⟨q1, q2, q3⟩ := ih d v a r1 h1
    obtain ⟨k1, k2, k3⟩ := toP_all ih ds vr as r2 h2
    refine ⟨.cons q1 k1, ?_, ?_⟩
    · show (PyData.canLay0 a && PyData.canLayAll0 as) = true
      rw [q2, k2]; rfl
    · show max (PyData.depth a) (PyData.depthAll as) ≤ n
      omega
theorem toP_ok (sm : Sim X.K X.mg W H m) : ∀ (n : Nat) (d : D) (v : V) (p : PyData), Rep X.K W H d v → toP m n d = some p → POk X.K H v p n
  | 0, d, v, p, r, h => by cases h
  | n + 1, d, v, p, r, h => by
    have ih := toP_ok sm n
    have lst : ∀ (ds : List D) (a : Addr) (vs : List V), SqL X.K H a vs → Reps X.K W H ds vs → (mapO (toP m n) ds).map PyData.list = some p → POk X.K H (.ref a) p (n + 1) := fun ds a vs q1 q2 h => by
      cases hm : mapO (toP m n) ds with
      | none => rw [hm] at h; cases h
      | some ps =>
        rw [hm] at h; cases h
        obtain ⟨k1, k2, k3⟩ := toP_all ih ds vs ps q2 hm
        exact ⟨.lst q1 k1, k2, Nat.succ_le_succ k3⟩
    cases d with
    | non => rw [r.non']; cases h; exact ⟨.non, rfl, Nat.zero_le _⟩
    | bl b => rw [r.bl']; cases h; exact ⟨.bl b, rfl, Nat.zero_le _⟩
    | int i => rw [r.int']; cases h; exact ⟨.int i, rfl, Nat.zero_le _⟩
    | str x =>
      rw [r.str']
      unfold toP at h
      by_cases hs : PyData.strOk x = true
      · simp only [hs, if_true] at h
        cases h
        exact ⟨.str x, hs, Nat.zero_le _⟩
      · simp only [hs] at h
        cases h
    | tup ds =>
      obtain ⟨a, vs, rfl, q1, q2⟩ := r.tup'
      have h : (mapO (toP m n) ds).map PyData.tuple = some p := h
      cases hm : mapO (toP m n) ds with
      | none => rw [hm] at h; cases h
      | some ps =>
        rw [hm] at h; cases h
        obtain ⟨k1, k2, k3⟩ := toP_all ih ds vs ps q2 hm
        exact ⟨.tup q1 k1, k2, Nat.succ_le_succ k3⟩
    | lst ds =>
      obtain ⟨a, vs, rfl, q1, q2⟩ := sm.lst r (ds := ds) rfl
      exact lst ds a vs q1 q2 h
    | scr ds =>
      obtain ⟨a, vs, rfl, q1, q2⟩ := sm.lst r (ds := ds) rfl
      exact lst ds a vs q1 q2 h
    | ref i =>
      have h : ((lstC m[i]?).bind fun ds => mapO (toP m n) ds).map PyData.list = some p := h
      cases hl : lstC m[i]? with
      | none => rw [hl] at h; cases h
      | some ds =>
        rw [hl] at h
        obtain ⟨a, vs, rfl, q1, q2⟩ := sm.lst r (ds := ds) hl
        exact lst ds a vs q1 q2 h
    | fn x => cases h
end
def flatD : D → Option V
  | .non => some .non
  | .bl b => some (.bl b)
  | .int i => some (.int i)
  | .str x => some (.str x)
  | _ => none
theorem flat_rep {K : PySem.W.Frag} {W : Wd} {H : Hp} {d : D} {v x : V} (r : Rep K W H d v) (h : flatD d = some x) : v = x ∧ flatV x = true := by
  cases d <;> try (cases h)
  · exact ⟨r.non', rfl⟩
  · exact ⟨r.bl', rfl⟩
  · exact ⟨r.int', rfl⟩
  · exact ⟨r.str', rfl⟩
def eqDeep (neg : Bool) (m : Mem) (d e : D) : R D := match toP m 60 d, toP m 60 e with
  | some p, some q => .ok (.bl (PyData.eqv p q ^^ neg)) m
  | _, _ => .stk
def gEq (neg : Bool) (d e : D) (m : Mem) : R D := match flatD d, flatD e with
  | some x, some y => if scal x y = true then .ok (.bl (decide (x = y) ^^ neg)) m else eqDeep neg m d e
  | _, _ => eqDeep neg m d e
section
variable {X : Cx} {E : XK}
theorem om_deep {neg : Bool} (hu : X.A.units + 64 < cLine) {pins : List (Addr × Obj)} {s : Shared} {σ : SL} {H : Hp} {x y : V} {v u : Value} {Q : VK} {W : Wd} {m : Mem} {d e : D} (I : Inv X pins σ H s) (rx : RelV x v) (ry : RelV y u) (sm : Sim X.K X.mg W H m) (rd : Rep X.K W H d x) (re : Rep X.K W H e y)
    (p : Post X.K X.mg E (Rep X.K) W H Q (eqDeep neg m d e)) : wpAny (model X.prog X.w) X.A (compareOp (if neg then .NotEq else .Eq) v u) (EP X pins σ Q) X.xe s := by
  unfold eqDeep at p
  split at p
  · rename_i p1 p2 h1 h2
    obtain ⟨a1, a2, a3⟩ := toP_ok sm 60 d x p1 rd h1
    obtain ⟨b1, b2, b3⟩ := toP_ok sm 60 e y p2 re h2
    have s1 : SeqAt.shaped p1 = true := by
      unfold SeqAt.shaped
      rw [a2, decide_eq_true (by omega)]; rfl
    have s2 : SeqAt.shaped p2 = true := by
      unfold SeqAt.shaped
      rw [b2, decide_eq_true (by omega)]; rfl
    cases neg with
    | false => exact op_eqD hu pins s σ H _ _ v u Q I rx ry ⟨p1, p2, a1, b1, s1, s2, by simpa using p.now sm rep_bl⟩
    | true => exact op_neD hu pins s σ H _ _ v u Q I rx ry ⟨p1, p2, a1, b1, s1, s2, by simpa using p.now sm rep_bl⟩
  · exact p.elim
theorem om_eqs {neg : Bool} (hu : X.A.units + 64 < cLine) : OpM X E (compareOp (if neg then .NotEq else .Eq)) (gEq neg) := by
  rintro pins s σ H x y v u Q I rx ry ⟨W, m, d, e, sm, rd, re, p⟩
  unfold gEq at p
  split at p
  · rename_i x' y' h1 h2
    obtain ⟨e1, _⟩ := flat_rep rd h1
    obtain ⟨e2, _⟩ := flat_rep re h2
    split at p
    · rename_i hs
      subst e1 e2
      cases neg with
      | false => exact op_eq pins s σ H _ _ v u Q I rx ry ⟨hs, by simpa using p.now sm rep_bl⟩
      | true => exact op_ne pins s σ H _ _ v u Q I rx ry ⟨hs, by simpa using p.now sm rep_bl⟩
    · exact om_deep hu I rx ry sm rd re p
  · exact om_deep hu I rx ry sm rd re p
theorem om_eq (hu : X.A.units + 64 < cLine) : OpM X E (compareOp .Eq) (gEq false) := om_eqs (neg := false) hu
theorem om_ne (hu : X.A.units + 64 < cLine) : OpM X E (compareOp .NotEq) (gEq true) := om_eqs (neg := true) hu
end

/-! ### order -/
def gCmp (fi : Int → Int → Bool) (fs : List Nat → List Nat → Bool) : D → D → Mem → R D
  | .int i, .int j, m => .ok (.bl (fi i j)) m
  | .str x, .str y, m => .ok (.bl (fs x.cps.toList y.cps.toList)) m
  | _, _, _ => .stk
abbrev gLt := gCmp (fun i j => decide (i < j)) (fun x y => decide (x < y))
abbrev gLe := gCmp (fun i j => decide (i ≤ j)) (fun x y => !decide (y < x))
abbrev gGt := gCmp (fun i j => decide (j < i)) (fun x y => decide (y < x))
abbrev gGe := gCmp (fun i j => decide (j ≤ i)) (fun x y => !decide (x < y))
section
variable {X : Cx} {E : XK}
theorem om_lt : OpM X E (compareOp .Lt) gLt := by
  rintro pins s σ H x y v u Q I rx ry ⟨W, m, d, e, sm, rd, re, p⟩
  unfold gLt gCmp at p
  split at p
  · rw [rd.int'] at rx; rw [re.int'] at ry
    exact op_lt pins s σ H _ _ v u Q I rx ry ⟨_, _, rfl, rfl, p.now sm rep_bl⟩
  · rw [rd.str'] at rx; rw [re.str'] at ry
    exact op_lt_str pins s σ H _ _ v u Q I rx ry ⟨_, _, rfl, rfl, p.now sm rep_bl⟩
  · exact p.elim
theorem om_le : OpM X E (compareOp .LtE) gLe := by
  rintro pins s σ H x y v u Q I rx ry ⟨W, m, d, e, sm, rd, re, p⟩
  unfold gLe gCmp at p
  split at p
  · rw [rd.int'] at rx; rw [re.int'] at ry
    exact op_le pins s σ H _ _ v u Q I rx ry ⟨_, _, rfl, rfl, p.now sm rep_bl⟩
  · rw [rd.str'] at rx; rw [re.str'] at ry
    exact op_le_str pins s σ H _ _ v u Q I rx ry ⟨_, _, rfl, rfl, p.now sm rep_bl⟩
  · exact p.elim
theorem om_gt : OpM X E (compareOp .Gt) gGt := by
  rintro pins s σ H x y v u Q I rx ry ⟨W, m, d, e, sm, rd, re, p⟩
  unfold gGt gCmp at p
  split at p
  · rw [rd.int'] at rx; rw [re.int'] at ry
    exact op_gt pins s σ H _ _ v u Q I rx ry ⟨_, _, rfl, rfl, p.now sm rep_bl⟩
  · rw [rd.str'] at rx; rw [re.str'] at ry
    exact op_gt_str pins s σ H _ _ v u Q I rx ry ⟨_, _, rfl, rfl, p.now sm rep_bl⟩
  · exact p.elim
theorem om_ge : OpM X E (compareOp .GtE) gGe := by
  rintro pins s σ H x y v u Q I rx ry ⟨W, m, d, e, sm, rd, re, p⟩
  unfold gGe gCmp at p
  split at p
  · rw [rd.int'] at rx; rw [re.int'] at ry
    exact op_ge pins s σ H _ _ v u Q I rx ry ⟨_, _, rfl, rfl, p.now sm rep_bl⟩
  · rw [rd.str'] at rx; rw [re.str'] at ry
    exact op_ge_str pins s σ H _ _ v u Q I rx ry ⟨_, _, rfl, rfl, p.now sm rep_bl⟩
  · exact p.elim
end
end Mir

/-! Mir, membership, subscripts, built-ins, sources, calls. -/
namespace Mir
open PySem PySem.Spec PyProof.Rows L2

/-! ### in, is -/
def inStr (x y : Str) : Bool := match x.cps.toList with
  | [c] => decide (c ∈ y.cps.toList)
  | _ => !(Builtin.Str.occurrences y x 0 y.length 1).isEmpty
/-- in a list or tuple -/
def inSeq (m : Mem) (d : D) (ds : List D) : Option Bool := match toP m 60 d, mapO (toP m 59) ds with
  | some p, some ps => some (ps.any fun z => PyData.eqv z p)
  | _, _ => none
def flatIn (d : D) (ds : List D) : Option Bool := match flatD d, mapO flatD ds with
  | some x, some xs => some (inV x xs)
  | _, _ => none
def bR (neg : Bool) (m : Mem) : Option Bool → R D
  | some b => .ok (.bl (b ^^ neg)) m
  | none => .stk
def inOf (m : Mem) (d e : D) : Option Bool := match e with
  | .tup ds => flatIn d ds
  | e => match lstOf m e with
    | some ds => match flatIn d ds with
      | some b => some b
      | none => inSeq m d ds
    | none => none
def gIn (neg : Bool) (d e : D) (m : Mem) : R D := match d, e with
  | .str x, .str y => .ok (.bl (inStr x y ^^ neg)) m
  | d, e => bR neg m (inOf m d e)
section
variable {X : Cx} {E : XK}
theorem flats_rep {W : Wd} {H : Hp} : ∀ {ds : List D} {vs xs : List V}, Reps X.K W H ds vs → mapO flatD ds = some xs → vs = xs ∧ xs.all flatV = true
  | [], vs, xs, r, h => by rw [r.nil']; cases h; exact ⟨rfl, rfl⟩
  | d :: ds, vs, xs, r, h => by
    obtain ⟨v, vr, rfl, r1, r2⟩ := r.cons'
    obtain ⟨a, as, rfl, h1, h2⟩ := mapO_cons h
    obtain ⟨e1, e2⟩ := flat_rep r1 h1
    obtain ⟨e3, e4⟩ := flats_rep r2 h2
    subst e1 e3
    exact ⟨rfl, by rw [List.all_cons, e2, e4]; rfl⟩
abbrev inOp (neg : Bool) : CmpOp := if neg then .NotIn else .In
theorem om_flatIn {neg : Bool} {pins : List (Addr × Obj)} {s : Shared} {σ : SL} {H : Hp} {x : V} {v u : Value} {Q : VK} {W : Wd} {m : Mem} {d : D} {b : Bool} {a : Addr} {ds : List D} {vs : List V} (I : Inv X pins σ H s) (rx : RelV x v) (ry : RelV (.ref a) u) (sm : Sim X.K X.mg W H m) (rd : Rep X.K W H d x)
    (rs : Reps X.K W H ds vs) (hq : SqL X.K H a vs ∨ SqT X.K H a vs) (h : flatIn d ds = some b) (p : Post X.K X.mg E (Rep X.K) W H Q (bR neg m (some b))) : wpAny (model X.prog X.w) X.A (compareOp (inOp neg) v u) (EP X pins σ Q) X.xe s := by
  unfold flatIn at h
  split at h
  · rename_i x' xs' h1 h2
    cases h
    obtain ⟨e1, e2⟩ := flat_rep rd h1
    obtain ⟨e3, e4⟩ := flats_rep rs h2
    subst e1 e3
    cases neg with
    | false => exact op_in_seq pins s σ H _ _ v u Q I rx ry ⟨a, _, rfl, hq, e2, e4, by simpa using p.now sm rep_bl⟩
    | true => exact op_notIn_seq pins s σ H _ _ v u Q I rx ry ⟨a, _, rfl, hq, e2, e4, by simpa using p.now sm rep_bl⟩
  · cases h
theorem om_ins {neg : Bool} (hu : X.A.units + 65 < cLine) : OpM X E (compareOp (inOp neg)) (gIn neg) := by
  rintro pins s σ H x y v u Q I rx ry ⟨W, m, d, e, sm, rd, re, p⟩
  unfold gIn at p
  split at p
  · rename_i x' y'
    rw [rd.str'] at rx; rw [re.str'] at ry
    unfold inStr at p
    split at p
    · rename_i c hc
      obtain ⟨⟨l⟩⟩ := x'
      simp only at hc
      subst hc
      cases neg with
      | false => exact op_in_sign pins s σ H _ _ v u Q I rx ry ⟨c, _, rfl, rfl, by simpa using p.now sm rep_bl⟩
      | true => exact op_notIn_sign pins s σ H _ _ v u Q I rx ry ⟨c, _, rfl, rfl, by simpa using p.now sm rep_bl⟩
    · cases neg with
      | false => exact op_in_str pins s σ H _ _ v u Q I rx ry ⟨_, _, rfl, rfl, by simpa using p.now sm rep_bl⟩
      | true => exact op_notin_str pins s σ H _ _ v u Q I rx ry ⟨_, _, rfl, rfl, by simpa using p.now sm rep_bl⟩
  · unfold inOf at p
    split at p
    · rename_i ds _
      obtain ⟨a, vs, rfl, q1, q2⟩ := re.tup'
      cases h : flatIn d ds with
      | none => rw [h] at p; exact p.elim
      | some b => rw [h] at p; exact om_flatIn I rx ry sm rd q2 (.inr q1) h p
    · split at p
      · rename_i ds hl
        obtain ⟨a, vs, rfl, q1, q2⟩ := sm.lst re hl
        split at p
        · rename_i b h
          exact om_flatIn I rx ry sm rd q2 (.inl q1) h p
        · cases h : inSeq m d ds with
          | none => rw [h] at p; exact p.elim
          | some b =>
            rw [h] at p
            unfold inSeq at h
            split at h
            · rename_i p1 ps h1 h2
              cases h
              obtain ⟨a1, a2, a3⟩ := toP_ok sm 60 d x p1 rd h1
              obtain ⟨b1, b2, b3⟩ := toP_all (toP_ok sm 59) ds vs ps q2 h2
              have s1 : SeqAt.shaped p1 = true := by
                unfold SeqAt.shaped
                rw [a2, decide_eq_true (by omega)]; rfl
              have s2 : SeqAt.shaped (.list ps) = true := by
                unfold SeqAt.shaped
                have e1 : PyData.canLay0 (.list ps) = true := b2
                have e2 : PyData.depth (.list ps) ≤ 60 := Nat.succ_le_succ b3
                rw [e1, decide_eq_true (by omega)]; rfl
              cases neg with
              | false => exact op_inD hu pins s σ H _ _ v u Q I rx ry ⟨p1, ps, a1, .lst q1 b1, s1, s2, by simpa using p.now sm rep_bl⟩
              | true => exact op_notInD hu pins s σ H _ _ v u Q I rx ry ⟨p1, ps, a1, .lst q1 b1, s1, s2, by simpa using p.now sm rep_bl⟩
            · cases h
      · exact p.elim
theorem om_in (hu : X.A.units + 65 < cLine) : OpM X E (compareOp .In) (gIn false) := om_ins (neg := false) hu
theorem om_notin (hu : X.A.units + 65 < cLine) : OpM X E (compareOp .NotIn) (gIn true) := om_ins (neg := true) hu
end
def isNon : D → Bool
  | .non => true
  | _ => false
def gIs (neg : Bool) : D → D → Mem → R D
  | d, .non, m => .ok (.bl (isNon d ^^ neg)) m
  | _, _, _ => .stk
section
variable {X : Cx} {E : XK}
theorem isNon_rep {W : Wd} {H : Hp} {d : D} {v : V} (r : Rep X.K W H d v) : decide (v = .non) = isNon d := by
  cases d with
  | non => rw [r.non']; rfl
  | bl b => rw [r.bl']; rfl
  | int i => rw [r.int']; rfl
  | str x => rw [r.str']; rfl
  | tup ds => obtain ⟨a, vs, rfl, _⟩ := r.tup'; rfl
  | lst ds => obtain ⟨a, vs, rfl, _⟩ := r.lst'; rfl
  | scr ds => obtain ⟨a, vs, rfl, _⟩ := r.scr'; rfl
  | ref i => obtain ⟨a, rfl, _⟩ := r.ref'; rfl
  | fn x => obtain ⟨a, rfl, _⟩ := r.fn'; rfl
theorem om_is : OpM X E (compareOp .Is) (gIs false) := by
  rintro pins s σ H x y v u Q I rx ry ⟨W, m, d, e, sm, rd, re, p⟩
  cases e <;> try exact p.elim
  rw [re.non'] at ry
  refine op_isN pins s σ H _ _ v u Q I rx ry ⟨rfl, ?_⟩
  rw [isNon_rep rd]
  have := Post.now (b := V.bl (isNon d ^^ false)) p sm rep_bl
  simpa using this
theorem om_isnot : OpM X E (compareOp .IsNot) (gIs true) := by
  rintro pins s σ H x y v u Q I rx ry ⟨W, m, d, e, sm, rd, re, p⟩
  cases e <;> try exact p.elim
  rw [re.non'] at ry
  refine op_notN pins s σ H _ _ v u Q I rx ry ⟨rfl, ?_⟩
  rw [isNon_rep rd]
  have := Post.now (b := V.bl (isNon d ^^ true)) p sm rep_bl
  simpa using this
end

/-! ### subscripts -/
def oR (m : Mem) : Option D → R D
  | some d => .ok d m
  | none => .stk
def ixOf (m : Mem) (d : D) (i : Int) : Option D := match d with
  | .tup ds => atI ds i
  | .str z => if z.length ≤ sizeLine then (atI z.cps.toList i).map fun c => .str ⟨#[c]⟩ else none
  | d => (lstOf m d).bind fun ds => atI ds i
def gIx (d e : D) (m : Mem) : R D := match e with
  | .int i => oR m (ixOf m d i)
  | _ => .stk
def cutD (xs : List D) (lo hi : Option Int) : List D := (xs.drop (HT.sIx xs.length 0 lo)).take (HT.sIx xs.length xs.length hi - HT.sIx xs.length 0 lo)
def lR (al : Bool) (m : Mem) : Option (List D) → R D
  | some ds => mkL al ds m
  | none => .stk
def gSl (al : Bool) (d : D) (lo hi : Option Int) (m : Mem) : R D := match d with
  | .str z => if z.length ≤ sizeLine then .ok (.str (cutS z lo hi)) m else .stk
  | .tup ds => .ok (.tup (cutD ds lo hi)) m
  | d => lR al m ((lstOf m d).map fun ds => cutD ds lo hi)
section
variable {X : Cx} {E : XK}
theorem atI_rep {W : Wd} {H : Hp} {ds : List D} {vs : List V} {i : Int} {d : D} (r : Reps X.K W H ds vs) (h : atI ds i = some d) : ∃ v, atI vs i = some v ∧ Rep X.K W H d v := by
  unfold atI at h ⊢
  rw [r.length]
  cases hj : ixN ds.length i with
  | none => rw [hj] at h; cases h
  | some j => rw [hj] at h; exact r.get h
theorem cut_rep {W : Wd} {H : Hp} {ds : List D} {vs : List V} {lo hi : Option Int} (r : Reps X.K W H ds vs) : Reps X.K W H (cutD ds lo hi) (cutV vs lo hi) := by
  unfold cutD cutV
  rw [r.length]
  exact (r.drop _).take _
theorem im_ix : IxR X (rM X.K X.mg E gIx) := by
  rintro value slice pins s σ H x y v u Q I rx ry ⟨W, m, d, e, sm, rd, re, p⟩ hs
  cases e <;> try exact p.elim
  rename_i i
  rw [re.int'] at ry
  replace p : Post X.K X.mg E (Rep X.K) W H Q (oR m (ixOf m d i)) := p
  cases h : ixOf m d i with
  | none => rw [h] at p; exact p.elim
  | some z =>
    rw [h] at p
    replace p : Post X.K X.mg E (Rep X.K) W H Q (.ok z m) := p
    have lst : ∀ ds, lstOf m d = some ds → atI ds i = some z → wpAny (model X.prog X.w) X.A (subscriptTail value slice v u) (EP X pins σ Q) X.xe s := fun ds h1 h2 => by
      obtain ⟨a, vs, rfl, q1, q2⟩ := sm.lst rd h1
      obtain ⟨w, k1, k2⟩ := atI_rep q2 h2
      exact ix_list value slice pins s σ H _ _ v u Q I rx ry ⟨a, vs, i, w, rfl, rfl, q1, k1, p.now sm k2⟩ hs
    cases d with
    | tup ds =>
      obtain ⟨a, vs, rfl, q1, q2⟩ := rd.tup'
      obtain ⟨w, k1, k2⟩ := atI_rep q2 h
      exact ix_tup value slice pins s σ H _ _ v u Q I rx ry ⟨a, vs, i, w, rfl, rfl, q1, k1, p.now sm k2⟩ hs
    | str t =>
      rw [rd.str'] at rx
      unfold ixOf at h
      by_cases hz : t.length ≤ sizeLine
      · simp only [hz, if_true] at h
        cases hc : atI t.cps.toList i with
        | none => rw [hc] at h; cases h
        | some c =>
          rw [hc] at h
          cases h
          exact ix_str value slice pins s σ H _ _ v u Q I rx ry ⟨t, i, c, rfl, rfl, hz, hc, p.now sm rep_str⟩ hs
      · simp only [hz, if_false] at h
        cases h
    | lst ds => exact lst ds rfl h
    | scr ds => exact lst ds rfl h
    | ref j =>
      have h : (lstOf m (.ref j)).bind (fun ds => atI ds i) = some z := h
      cases hl : lstOf m (.ref j) with
      | none => rw [hl] at h; cases h
      | some ds => rw [hl] at h; exact lst ds hl h
    | _ => cases h
theorem sm_sl (al : Bool) : SlR X (rSM X.K X.mg E (gSl al)) := by
  rintro pins s σ H x v vl vu lo hi sl Q I rx hs pl pu ⟨W, m, d, sm, rd, p⟩
  have lst : ∀ ds, lstOf m d = some ds → Post X.K X.mg E (Rep X.K) W H Q (mkL al (cutD ds lo hi) m) → ∃ T id, typeLookup (.type T) "__getitem__" = pure (some (.builtin id)) ∧ s.TypeIs v T ∧ wpAny (model X.prog X.w) X.A (getItem v (.ref sl)) (EP X pins σ Q) X.xe s := fun ds h1 p => by
    obtain ⟨a, vs, rfl, q1, q2⟩ := sm.lst rd h1
    exact sl_list pins s σ H _ v vl vu lo hi sl Q I rx hs pl pu ⟨a, vs, rfl, q1, fun pp hp => sm.newL hp (cut_rep q2) p⟩
  cases d with
  | str z =>
    rw [rd.str'] at rx
    unfold gSl at p
    by_cases hz : z.length ≤ sizeLine
    · simp only [hz, if_true] at p
      exact sl_str pins s σ H _ v vl vu lo hi sl Q I rx hs pl pu ⟨z, rfl, hz, p.now sm rep_str⟩
    · simp only [hz, if_false] at p
      exact p.elim
  | tup ds =>
    obtain ⟨a, vs, rfl, q1, q2⟩ := rd.tupF'
    have p : Post X.K X.mg E (Rep X.K) W H Q (.ok (.tup (cutD ds lo hi)) m) := p
    refine sl_tupF pins s σ H _ v vl vu lo hi sl Q I rx hs pl pu ⟨a, vs, rfl, q1.t, fun hw => ?_, fun _ pp oo hp ho => sm.newT hp ho (cut_rep q2) p⟩
    have e : cutD ds lo hi = ds := by
      unfold cutD
      rw [q2.length] at hw
      rw [hw.1, hw.2]
      simp
    rw [e] at p
    exact p.now sm (rep_tup q1 q2)
  | lst ds => exact lst ds rfl p
  | scr ds => exact lst ds rfl p
  | ref j =>
    have p : Post X.K X.mg E (Rep X.K) W H Q (lR al m ((lstOf m (.ref j)).map fun ds => cutD ds lo hi)) := p
    cases hl : lstOf m (.ref j) with
    | none => rw [hl] at p; exact p.elim
    | some ds => rw [hl] at p; exact lst ds hl p
  | _ => exact p.elim
end

/-! ### o[i] = v -/
def setL (m : Mem) (i : Nat) (k : Int) (d : D) : R Unit := match lstC m[i]? with
  | some ds => match ixN ds.length k with
    | some j => .ok () (m.set i (.lst (ds.set j d)))
    | none => .stk
  | none => .stk
def gSet (o i d : D) (m : Mem) : R Unit := match o, i with
  | .ref j, .int k => setL m j k d
  | _, _ => .stk
def gSubT (co ci : EM) : GM := fun d η m => (co η m).bind fun o m1 => (ci η m1).bind fun i m2 => (gSet o i d m2).bind fun _ m3 => .ok η m3
def rSetM (K : PySem.W.Frag) (mg : Str → Option Value) (E : XK) : V → V → V → Hp → (Hp → Prop) → Prop := fun o i v H Q => ∃ W m do' di d, Sim K mg W H m ∧ Rep K W H do' o ∧ Rep K W H di i ∧ Rep K W H d v ∧ Post K mg E (fun _ _ _ (_ : Unit) => True) W H (fun _ H' => Q H') (gSet do' di d m)
section
variable {X : Cx} {E : XK} {pos : Pos}
theorem set_m : PSet X (rSetM X.K X.mg E) := by
  rintro pins s σ H o i v ov iv u Q I ro ri rv ⟨W, m, do', di, d, sm, r1, r2, r3, p⟩
  unfold gSet at p
  split at p
  · rename_i j k
    obtain ⟨a, rfl, e2⟩ := r1.ref'
    rw [r2.int'] at ri
    unfold setL at p
    split at p
    · rename_i ds hl
      split at p
      · rename_i t ht
        have hc : m[j]? = some (.lst ds) := by
          cases hm : m[j]? with
          | none => rw [hm] at hl; cases hl
          | some c => cases c <;> (rw [hm] at hl; cases hl) <;> rfl
        obtain ⟨vs, q1, q2⟩ := sm.cell j a _ e2 hc
        have ha : a ∈ W.i := List.mem_of_getElem? e2
        refine set_list pins s σ H _ _ v ov iv u Q I ro ri rv ⟨a, vs, k, t, rfl, rfl, q1, by rw [q2.length]; exact ht, ?_⟩
        have ex : Ext W H W (upd H a (.lst (vs.set t v))) := Ext.mut ha q1 rfl
        exact p () W _ ex (sm.mut e2 ⟨vs.set t v, upd_same, ((q2.ext ex).set t (r3.ext ex))⟩) True.intro
      · exact p.elim
    · exact p.elim
  · exact p.elim
theorem mg_sub {vs : List Nat} {o i : Expr} {co ci : EM} (ho : MEx X E o co) (hi : MEx X E i ci)
    (ha : ∀ v, assign (.Subscript o i pos) X.env v = (do
      let ov ← holding [v] (eval o X.env)
      let iv ← holding [v, ov] (eval i X.env)
      standAt pos
      holding [v, ov, iv] (setItem ov iv v)
      release [v, ov, iv] []) := by intro _; rfl) : MG X E Rep vs (.Subscript o i pos) (gSubT co ci) := by
  refine ⟨fun pins s σ H v u Q I r h => (pg_sub ho hi (set_m (E := E)) ha).run pins s σ H v u Q I r ?_⟩
  obtain ⟨W, η, m, d, s, n, rp, p⟩ := h
  refine ⟨W, η, m, s, n, (Post.bind (Rl := Rep X.K) p).imp fun x H1 ⟨W1, d1, m1, e1, s1, r1, p1⟩ => ?_⟩
  refine ⟨W1, η, m1, s1, n.ext e1, (Post.bind (Rl := Rep X.K) p1).imp fun y H2 ⟨W2, d2, m2, e2, s2, r2, p2⟩ => ?_⟩
  refine ⟨W2, m2, d1, d2, d, s2, r1.ext e2, r2, (rp.ext e1).ext e2, (Post.bind (Rl := fun _ _ _ (_ : Unit) => True) p2).imp fun z H3 ⟨W3, _, m3, e3, s3, _, p3⟩ => ?_⟩
  exact p3.now s3 ⟨((n.ext e1).ext e2).ext e3, rfl⟩
end

/-! ### built-ins -/
def lenOf (m : Mem) : D → Option Nat
  | .str x => if x.length ≤ sizeLine then some x.length else none
  | .tup ds => some ds.length
  | d => (lstOf m d).map List.length
def bLen (ds : List D) (m : Mem) : R D := match ds with
  | [d] => match lenOf m d with
    | some n => .ok (.int n) m
    | none => .stk
  | _ => .stk
def seqOf (m : Mem) : D → Option (List D)
  | .tup ds => some ds
  | d => lstOf m d
def bList (al : Bool) (ds : List D) (m : Mem) : R D := match ds with
  | [d] => lR al m (seqOf m d)
  | _ => .stk
def bTuple (ds : List D) (m : Mem) : R D := match ds with
  | [d] => match seqOf m d with
    | some ds => .ok (.tup ds) m
    | none => .stk
  | _ => .stk
def boolOf : D → Option Bool
  | .bl b => some b
  | _ => none
def strOf : D → Option Str
  | .str i => some i
  | _ => none
def bAll (f : List Bool → Bool) (ds : List D) (m : Mem) : R D := match ds with
  | [d] => match (lstOf m d).bind (mapO boolOf) with
    | some bs => .ok (.bl (f bs)) m
    | none => .stk
  | _ => .stk
section
variable {X : Cx} {E : XK}
theorem Sim.seq {K : PySem.W.Frag} {mg : Str → Option Value} {W : Wd} {H : Hp} {m : Mem} {d : D} {v : V} {ds : List D} (s : Sim K mg W H m) (r : Rep K W H d v) (h : seqOf m d = some ds) : ∃ a vs, v = .ref a ∧ (SqL K H a vs ∨ SqT K H a vs) ∧ Reps K W H ds vs := by
  unfold seqOf at h
  split at h
  · cases h
    obtain ⟨a, vs, rfl, q1, q2⟩ := r.tup'
    exact ⟨a, vs, rfl, .inr q1, q2⟩
  · obtain ⟨a, vs, rfl, q1, q2⟩ := s.lst r h
    exact ⟨a, vs, rfl, .inl q1, q2⟩
theorem cm_len : CallR X (.builtin "len") (rCM X.K X.mg E bLen) := by
  rintro pins s σ H xs us Q I rv ⟨W, m, ds, sm, rs, p⟩
  unfold bLen at p
  split at p
  · rename_i d
    obtain ⟨v, vr, rfl, r1, r2⟩ := rs.cons'
    rw [r2.nil'] at rv
    split at p
    · rename_i n hn
      unfold lenOf at hn
      split at hn
      · rename_i x
        rw [r1.str'] at rv
        split at hn
        · rename_i hz
          cases hn
          exact call_len_str pins s σ H _ us Q I rv ⟨x, rfl, hz, p.now sm rep_int⟩
        · cases hn
      · rename_i ds
        cases hn
        obtain ⟨a, vs, rfl, q1, q2⟩ := r1.tup'
        exact call_len_seq pins s σ H _ us Q I rv ⟨a, vs, rfl, .inr q1, by rw [q2.length]; exact p.now sm rep_int⟩
      · cases hl : lstOf m d with
        | none => rw [hl] at hn; cases hn
        | some ds =>
          rw [hl] at hn
          cases hn
          obtain ⟨a, vs, rfl, q1, q2⟩ := sm.lst r1 hl
          exact call_len_seq pins s σ H _ us Q I rv ⟨a, vs, rfl, .inl q1, by rw [q2.length]; exact p.now sm rep_int⟩
    · exact p.elim
  · exact p.elim
theorem cm_list (al : Bool) : CallR X (.type "list") (rCM X.K X.mg E (bList al)) := by
  rintro pins s σ H xs us Q I rv ⟨W, m, ds, sm, rs, p⟩
  unfold bList at p
  split at p
  · rename_i d
    obtain ⟨v, vr, rfl, r1, r2⟩ := rs.cons'
    rw [r2.nil'] at rv
    cases h : seqOf m d with
    | none => rw [h] at p; exact p.elim
    | some ds =>
      rw [h] at p
      obtain ⟨a, vs, rfl, q1, q2⟩ := sm.seq r1 h
      exact call_list_of pins s σ H _ us Q I rv ⟨a, vs, rfl, q1, fun pp hp => sm.newL hp q2 p⟩
  · exact p.elim
theorem cm_tuple : CallR X (.type "tuple") (rCM X.K X.mg E bTuple) := by
  rintro pins s σ H xs us Q I rv ⟨W, m, ds, sm, rs, p⟩
  unfold bTuple at p
  split at p
  · rename_i d
    obtain ⟨v, vr, rfl, r1, r2⟩ := rs.cons'
    rw [r2.nil'] at rv
    split at p
    · rename_i ds h
      unfold seqOf at h
      split at h
      · cases h
        obtain ⟨a, vs, rfl, q1, q2⟩ := r1.tupF'
        exact call_tupleF pins s σ H _ us Q I rv ⟨a, vs, rfl, .inr ⟨q1.t, p.now sm (rep_tup q1 q2)⟩⟩
      · obtain ⟨a, vs, rfl, q1, q2⟩ := sm.lst r1 h
        exact call_tupleF pins s σ H _ us Q I rv ⟨a, vs, rfl, .inl ⟨q1, fun pp oo hp ho => sm.newT hp ho q2 p⟩⟩
    · exact p.elim
  · exact p.elim
theorem bools_rep {W : Wd} {H : Hp} : ∀ {ds : List D} {vs : List V} {bs : List Bool}, Reps X.K W H ds vs → mapO boolOf ds = some bs → vs = bs.map V.bl
  | [], vs, bs, r, h => by rw [r.nil']; cases h; rfl
  | d :: ds, vs, bs, r, h => by
    obtain ⟨v, vr, rfl, r1, r2⟩ := r.cons'
    obtain ⟨a, as, rfl, h1, h2⟩ := mapO_cons h
    rw [bools_rep r2 h2]
    cases d <;> cases h1
    rw [r1.bl']; rfl
theorem strs_rep {W : Wd} {H : Hp} : ∀ {ds : List D} {vs : List V} {bs : List Str}, Reps X.K W H ds vs → mapO strOf ds = some bs → vs = bs.map V.str
  | [], vs, bs, r, h => by rw [r.nil']; cases h; rfl
  | d :: ds, vs, bs, r, h => by
    obtain ⟨v, vr, rfl, r1, r2⟩ := r.cons'
    obtain ⟨a, as, rfl, h1, h2⟩ := mapO_cons h
    rw [strs_rep r2 h2]
    cases d <;> cases h1
    rw [r1.str']; rfl
theorem cm_all (hc : X.calm = true) : CallR X (.builtin "all") (rCM X.K X.mg E (bAll fun bs => bs.all id)) := by
  rintro pins s σ H xs us Q I rv ⟨W, m, ds, sm, rs, p⟩
  unfold bAll at p
  split at p
  · rename_i d
    obtain ⟨v, vr, rfl, r1, r2⟩ := rs.cons'
    rw [r2.nil'] at rv
    cases h : lstOf m d with
    | none => rw [h] at p; exact p.elim
    | some ds =>
      rw [h] at p
      cases hb : mapO boolOf ds with
      | none => simp only [Option.bind_some, hb] at p; exact p.elim
      | some bs =>
        simp only [Option.bind_some, hb] at p
        obtain ⟨a, vs, rfl, q1, q2⟩ := sm.lst r1 h
        exact cr_all hc pins s σ H _ us Q I rv ⟨a, bs, rfl, by rw [← bools_rep q2 hb]; exact q1, p.now sm rep_bl⟩
  · exact p.elim
theorem cm_any (hc : X.calm = true) : CallR X (.builtin "any") (rCM X.K X.mg E (bAll fun bs => bs.any id)) := by
  rintro pins s σ H xs us Q I rv ⟨W, m, ds, sm, rs, p⟩
  unfold bAll at p
  split at p
  · rename_i d
    obtain ⟨v, vr, rfl, r1, r2⟩ := rs.cons'
    rw [r2.nil'] at rv
    cases h : lstOf m d with
    | none => rw [h] at p; exact p.elim
    | some ds =>
      rw [h] at p
      cases hb : mapO boolOf ds with
      | none => simp only [Option.bind_some, hb] at p; exact p.elim
      | some bs =>
        simp only [Option.bind_some, hb] at p
        obtain ⟨a, vs, rfl, q1, q2⟩ := sm.lst r1 h
        exact cr_any hc pins s σ H _ us Q I rv ⟨a, bs, rfl, by rw [← bools_rep q2 hb]; exact q1, p.now sm rep_bl⟩
  · exact p.elim
end
end Mir

/-! Mir, methods, sources, defs, calls. -/
namespace Mir
open PySem PySem.Spec PyProof.Rows L2

/-! ### methods of built-in types -/
def isTy (T : String) (m : Mem) (d : D) : Bool := match d with
  | .str _ => T == "str"
  | .tup _ => T == "tuple"
  | d => T == "list" && (lstOf m d).isSome
def mBM (T : String) (g : D → List D → Mem → R D) (o : EM) (a : AM) : EM := fun η m => (o η m).bind fun x m1 => if isTy T m1 x = true then (a η m1).bind fun xs m2 => g x xs m2 else .stk
def tyF (K : PySem.W.Frag) (T : String) (x : V) (H : Hp) : Prop := tyV K T x H ∨ (T = "tuple" ∧ ∃ a xs, x = .ref a ∧ SqF K H a xs)
def rMM (K : PySem.W.Frag) (mg : Str → Option Value) (E : XK) (g : D → List D → Mem → R D) : V → List V → Hp → VK → Prop := fun x xs H Q => ∃ W m d ds, Sim K mg W H m ∧ Rep K W H d x ∧ Reps K W H ds xs ∧ Post K mg E (Rep K) W H Q (g d ds m)
section
variable {X : Cx} {E : XK} {o e : Expr} {es : List Expr} {name : Str} {apos cpos : Pos} {T id : String} {g : D → List D → Mem → R D} {co : EM} {ca : AM}
theorem tyF_is {pins : List (Addr × Obj)} {σ : SL} {H : Hp} {s : Shared} {T : String} {x : V} {v : Value} (I : L2.Inv X pins σ H s) (r : L2.RelV x v) (ty : tyF X.K T x H) :
    s.TypeIs v T ∧ ∀ a, v = .ref a → ∃ ob, s.heap.get? a = some ob ∧ ob.dict = none := by
  rcases ty with ty | ⟨rfl, a, xs, rfl, h⟩
  · exact tyV_is I r ty
  · cases r
    rcases h with ⟨ob, h, hd, hc⟩ | ⟨ob, its, n, h1, h2, h3, _⟩
    · have k := (I.hok a _ h).1
      exact ⟨⟨ob, k, hc⟩, fun b e => by cases e; exact ⟨ob, k, hd⟩⟩
    · exact ⟨⟨ob, I.kIn a ob h1, h2⟩, fun b e => by cases e; exact ⟨ob, I.kIn _ ob h1, h3⟩⟩
theorem isTy_ok {W : Wd} {H : Hp} {m : Mem} {d : D} {x : V} (sm : Sim X.K X.mg W H m) (r : Rep X.K W H d x) (h : isTy T m d = true) : tyF X.K T x H := by
  have lst : (T == "list" && (lstOf m d).isSome) = true → tyF X.K T x H := fun h => by
    rw [Bool.and_eq_true] at h
    obtain ⟨ds, hl⟩ := Option.isSome_iff_exists.mp h.2
    obtain ⟨a, vs, rfl, q1, q2⟩ := sm.lst r hl
    exact .inl (.inl ⟨by simpa using h.1, vs, q1⟩)
  cases d with
  | str z => rw [r.str']; exact .inl (show T = "str" by simpa [isTy] using h)
  | tup ds =>
    obtain ⟨a, vs, rfl, q1, q2⟩ := r.tupF'
    exact .inr ⟨by simpa [isTy] using h, a, vs, rfl, q1⟩
  | _ => exact lst h
theorem me_bm (pa : PlainAttrs T) (slot : Slot T name id) (hty : typeOf (.builtin id) = pure (.type "method_descriptor")) (hm : MtR X id (rMM X.K X.mg E g)) (ho : MEx X E o co) (ha : MA X E (e :: es) ca)
    (hbase : attributeBase o name X.env (eval o X.env) = eval o X.env := by rfl)
    (hfew : ((backTo cpos (starEach (e :: es) X.env)).all (fun x => !x.1) && (backToKw cpos (keywordEach [] X.env)).all (fun x => x.1.isSome)
      && decide ((e :: es).length + ([] : List Keyword).length + (if ([] : List Keyword).isEmpty then 0 else 1) < 30)) = true := by rfl)
    (hline : (apos.endLine == cpos.line) = true := by rfl) (hs : starEach (e :: es) X.env = (false, eval e X.env) :: starEach es X.env := by rfl) (hplain : (backTo cpos (starEach es X.env)).any (·.1) = false := by rfl) :
    MEx X E (.Call (.Attribute o name apos) (e :: es) [] cpos) (mBM T g co ca) := by
  refine ⟨fun pins s σ H Q I h => ?_⟩
  have h2 : rdE X.K X.mg E co σ H (fun x H1 => tyF X.K T x H1 ∧ rdA X.K X.mg E ca σ H1 fun xs H2 => rMM X.K X.mg E g x xs H2 Q) := by
    obtain ⟨W, η, m, s, n, p⟩ := h
    refine ⟨W, η, m, s, n, (Post.bind (Rl := Rep X.K) p).imp fun x H1 ⟨W1, d, m1, e1, s1, r1, p1⟩ => ?_⟩
    by_cases hT : isTy T m1 d = true
    · rw [if_pos hT] at p1
      refine ⟨isTy_ok s1 r1 hT, W1, η, m1, s1, n.ext e1, (Post.bind (Rl := Reps X.K) p1).imp fun xs H2 ⟨W2, ds, m2, e2, s2, r2, p2⟩ => ⟨W2, m2, d, ds, s2, r1.ext e2, r2, p2⟩⟩
    · rw [if_neg hT] at p1
      exact p1.elim
  refine wpAny_Call_method_late hbase hfew hline rfl (thn (ho.run pins s σ H _ I h2) fun v s1 ⟨x, H1, I1, r1, ty, q1⟩ => ?_)
  obtain ⟨k1, k2⟩ := tyF_is I1 r1 ty
  refine ⟨T, id, pa, slot, hty, k1, k2, ?_⟩
  have hA := ha.run cpos pins s1 σ H1 _ I1 q1
  rw [hs] at hA ⊢
  refine Calls.callWith_builtin (by show (false || (backTo cpos (starEach es X.env)).any (·.1)) = false; rw [hplain] <;> rfl) (Calls.evalArgs_plain ?_)
  exact thn hA fun us s2 ⟨vs, H2, I2, r2, q2⟩ => hm pins s2 σ H2 x vs v us Q I2 r1 r2 q2
theorem me_bm0 (pa : PlainAttrs T) (slot : Slot T name id) (hty : typeOf (.builtin id) = pure (.type "method_descriptor")) (hm : MtR X id (rMM X.K X.mg E g)) (ho : MEx X E o co)
    (hbase : attributeBase o name X.env (eval o X.env) = eval o X.env := by rfl) (hline : (apos.endLine == cpos.line) = true := by rfl) : MEx X E (.Call (.Attribute o name apos) [] [] cpos) (mBM T g co mNil) := by
  refine ⟨fun pins s σ H Q I h => ?_⟩
  have h2 : rdE X.K X.mg E co σ H (fun x H1 => tyF X.K T x H1 ∧ rMM X.K X.mg E g x [] H1 Q) := by
    obtain ⟨W, η, m, s, n, p⟩ := h
    refine ⟨W, η, m, s, n, (Post.bind (Rl := Rep X.K) p).imp fun x H1 ⟨W1, d, m1, e1, s1, r1, p1⟩ => ?_⟩
    by_cases hT : isTy T m1 d = true
    · rw [if_pos hT] at p1
      exact ⟨isTy_ok s1 r1 hT, W1, m1, d, [], s1, r1, reps_nil, p1⟩
    · rw [if_neg hT] at p1
      exact p1.elim
  refine wpAny_Call_method0_late hbase hline (thn (ho.run pins s σ H _ I h2) fun v s1 ⟨x, H1, I1, r1, ty, q1⟩ => ?_)
  obtain ⟨k1, k2⟩ := tyF_is I1 r1 ty
  exact ⟨T, id, pa, slot, hty, k1, k2, Calls.callWith_builtin rfl (PySem.evalArgs_none (hm pins s1 σ H1 x [] v [] Q I1 r1 .nil q1))⟩
end
def gJoin (d : D) (ds : List D) (m : Mem) : R D := match d, ds with
  | .str a, [e] => match (seqOf m e).bind (mapO strOf) with
    | some ys => if (ys.map (·.length)).sum + ys.length * a.length ≤ 16777216 then .ok (.str (Txt.join a ys)) m else .stk
    | none => .stk
  | _, _ => .stk
def gAppend (d : D) (ds : List D) (m : Mem) : R D := match d, ds with
  | .ref i, [x] => match lstC m[i]? with
    | some xs => if xs.length < sizeLine then .ok .non (m.set i (.lst (xs ++ [x]))) else .stk
    | none => .stk
  | _, _ => .stk
def gExtend (d : D) (ds : List D) (m : Mem) : R D := match d, ds with
  | .ref i, [x] => match lstC m[i]?, lstOwn m x with
    | some xs, some ys => if xs.length + ys.length ≤ sizeLine then .ok .non (m.set i (.lst (xs ++ ys))) else .stk
    | _, _ => .stk
  | _, _ => .stk
/-- the first place -/
def firstAt (z : Str) : List Str → Option Nat
  | [] => none
  | y :: ys => if y = z then some 0 else (firstAt z ys).map (· + 1)
def gIndexT (d : D) (ds : List D) (m : Mem) : R D := match d, ds with
  | .tup xs, [.str z] => match (mapO strOf xs).bind (firstAt z) with
    | some j => .ok (.int (j : Nat)) m
    | none => .stk
  | _, _ => .stk
section
variable {X : Cx} {E : XK}
theorem firstAt_ok {z : Str} : ∀ {ys : List Str} {j : Nat}, firstAt z ys = some j → ys[j]? = some z ∧ ∀ m, m < j → ys[m]? ≠ some z
  | [], j, h => by cases h
  | y :: ys, j, h => by
    unfold firstAt at h
    by_cases e : y = z
    · rw [if_pos e] at h
      cases h
      exact ⟨by rw [e]; rfl, fun m hm => absurd hm (Nat.not_lt_zero m)⟩
    · rw [if_neg e] at h
      cases hf : firstAt z ys with
      | none => rw [hf] at h; cases h
      | some k =>
        rw [hf] at h
        cases h
        obtain ⟨h1, h2⟩ := firstAt_ok hf
        refine ⟨h1, fun m hm => ?_⟩
        cases m with
        | zero => intro q; exact e (Option.some.inj q)
        | succ m => exact h2 m (Nat.lt_of_succ_lt_succ hm)
theorem cell_of {m : Mem} {i : Nat} {ds : List D} (h : lstC m[i]? = some ds) : m[i]? = some (.lst ds) := by
  cases hm : m[i]? with
  | none => rw [hm] at h; cases h
  | some c => cases c <;> (rw [hm] at h; cases h) <;> rfl
theorem mm_join : MtR X "str.join" (rMM X.K X.mg E gJoin) := by
  rintro pins s σ H x xs v us Q I rx rxs ⟨W, m, d, ds, sm, rd, rds, p⟩
  unfold gJoin at p
  split at p
  · rename_i a e
    rw [rd.str'] at rx
    obtain ⟨w, wr, rfl, r1, r2⟩ := rds.cons'
    rw [r2.nil'] at rxs
    split at p
    · rename_i ys hy
      cases hs : seqOf m e with
      | none => rw [hs] at hy; cases hy
      | some zs =>
        rw [hs] at hy
        obtain ⟨b, vs, rfl, q1, q2⟩ := sm.seq r1 hs
        have ev := strs_rep q2 hy
        subst ev
        split at p
        · rename_i hl
          exact mt_join pins s σ H _ _ v us Q I rx rxs ⟨a, b, ys, rfl, rfl, q1, hl, p.now sm rep_str⟩
        · exact p.elim
    · exact p.elim
  · exact p.elim
theorem mm_append : MtR X "list.append" (rMM X.K X.mg E gAppend) := by
  rintro pins s σ H x xs v us Q I rx rxs ⟨W, m, d, ds, sm, rd, rds, p⟩
  unfold gAppend at p
  split at p
  · rename_i i e
    obtain ⟨a, rfl, e2⟩ := rd.ref'
    obtain ⟨w, wr, rfl, r1, r2⟩ := rds.cons'
    rw [r2.nil'] at rxs
    split at p
    · rename_i zs hl
      split at p
      · rename_i hlt
        obtain ⟨vs, q1, q2⟩ := sm.cell i a _ e2 (cell_of hl)
        have ex : Ext W H W (upd H a (.lst (vs ++ [w]))) := Ext.mut (List.mem_of_getElem? e2) q1 rfl
        exact mt_append pins s σ H _ _ v us Q I rx rxs ⟨a, vs, w, rfl, rfl, q1, by rw [q2.length]; exact hlt, p .non W _ ex (sm.mut e2 ⟨_, upd_same, (q2.append (reps_one r1)).ext ex⟩) rep_non⟩
      · exact p.elim
    · exact p.elim
  · exact p.elim
theorem mm_extend : MtR X "list.extend" (rMM X.K X.mg E gExtend) := by
  rintro pins s σ H x xs v us Q I rx rxs ⟨W, m, d, ds, sm, rd, rds, p⟩
  unfold gExtend at p
  split at p
  · rename_i i e
    obtain ⟨a, rfl, e2⟩ := rd.ref'
    obtain ⟨w, wr, rfl, r1, r2⟩ := rds.cons'
    rw [r2.nil'] at rxs
    split at p
    · rename_i zs ys hl hy
      split at p
      · rename_i hlt
        obtain ⟨vs, q1, q2⟩ := sm.cell i a _ e2 (cell_of hl)
        obtain ⟨b, ws, rfl, k1, k2⟩ := sm.own r1 hy
        have ex : Ext W H W (upd H a (.lst (vs ++ ws))) := Ext.mut (List.mem_of_getElem? e2) q1 rfl
        exact mt_extend pins s σ H _ _ v us Q I rx rxs ⟨a, b, vs, ws, rfl, rfl, q1, k1, by rw [q2.length, k2.length]; exact hlt, p .non W _ ex (sm.mut e2 ⟨_, upd_same, (q2.append k2).ext ex⟩) rep_non⟩
      · exact p.elim
    · exact p.elim
  · exact p.elim
theorem Reps.dropLast {W : Wd} {H : Hp} {ds : List D} {vs : List V} (r : Reps X.K W H ds vs) : Reps X.K W H ds.dropLast vs.dropLast := by
  rw [List.dropLast_eq_take, List.dropLast_eq_take, r.length]
  exact r.take _
theorem mm_indexT : MtR X "tuple.index" (rMM X.K X.mg E gIndexT) := by
  rintro pins s σ H x xs v us Q I rx rxs ⟨W, m, d, ds, sm, rd, rds, p⟩
  unfold gIndexT at p
  split at p
  · rename_i zs z
    obtain ⟨a, vs, rfl, q1, q2⟩ := rd.tup'
    obtain ⟨w, wr, rfl, r1, r2⟩ := rds.cons'
    rw [r2.nil', r1.str'] at rxs
    split at p
    · rename_i j hj
      cases hs : mapO strOf zs with
      | none => rw [hs] at hj; cases hj
      | some ys =>
        rw [hs] at hj
        obtain ⟨h1, h2⟩ := firstAt_ok hj
        have ev := strs_rep q2 hs
        subst ev
        exact mt_tup_index pins s σ H _ _ v us Q I rx rxs ⟨a, ys, z, j, rfl, rfl, q1, h1, h2, p.now sm rep_int⟩
    · exact p.elim
  · exact p.elim
end

/-! ### isinstance of a built-in class -/
def tyNm (m : Mem) : D → Option String
  | .non => some "NoneType"
  | .bl _ => some "bool"
  | .int _ => some "int"
  | .str _ => some "str"
  | .tup _ => some "tuple"
  | .lst _ => some "list"
  | .scr _ => none
  | .ref i => match m[i]? with
    | some (.lst _) => some "list"
    | some (.dK _) => some "dict"
    | _ => none
  | .fn _ => none
def mIsi (T : String) (c : EM) : EM := fun η m => (c η m).bind fun d m1 => match (tyNm m1 d).bind fun t => kitB t T with
  | some b => .ok (.bl b) m1
  | none => .stk
section
variable {X : Cx} {E : XK}
theorem tyNm_ok {W : Wd} {H : Hp} {m : Mem} {d : D} {v : V} {t : String} (sm : Sim X.K X.mg W H m) (r : Rep X.K W H d v) (h : tyNm m d = some t) : TyX X.K H v (.type t) := by
  cases d with
  | non => rw [r.non']; cases h; exact .base .non
  | bl b => rw [r.bl']; cases h; exact .base (.bl b)
  | int i => rw [r.int']; cases h; exact .base (.int i)
  | str x => rw [r.str']; cases h; exact .base (.str x)
  | tup ds =>
    obtain ⟨a, vs, rfl, q1, q2⟩ := r.tupF'
    cases h
    rcases q1 with ⟨o, q, _⟩ | ⟨o, its, n, h1, h2, _⟩
    · exact .fTuple q
    · exact .kTuple h1 h2
  | lst ds =>
    obtain ⟨a, vs, rfl, q1, q2⟩ := r.lst'
    cases h
    exact .base (.lst q1.1)
  | scr ds => cases h
  | ref i =>
    obtain ⟨a, rfl, e2⟩ := r.ref'
    simp only [tyNm] at h
    cases hm : m[i]? with
    | none => rw [hm] at h; cases h
    | some c =>
      rw [hm] at h
      have q := sm.cell i a c e2 hm
      cases c with
      | lst ds => cases h; obtain ⟨vs, q1, _⟩ := q; exact .base (.lst q1)
      | dK ds => cases h; obtain ⟨vs, q1, _⟩ := q; exact .base (.dK q1)
      | dT ds => cases h
      | ins c fs => cases h
      | dKz ds => cases h
      | dTz ds => cases h
      | exc c fs => cases h
      | tab x q => cases h
      | dX hs ds => cases h
  | fn x => cases h
theorem me_isi (T : String) {e : Expr} {c : EM} {p p2 pos : Pos} {tn : Str} (hm : X.mg "isinstance" = none) (hmT : X.mg tn = none) (hg : Gl X "isinstance") (hgT : Gl X tn) (hvT : bootBuiltins tn = some (.type T)) (he : MEx X E e c)
    (hnT : tn ≠ "__name__" := by decide) (hdT : (tn == ("__debug__" : Str)) = false := by decide)
    (hs1 : starEach [e, .Name tn p2] X.env = (false, eval e X.env) :: starEach [.Name tn p2] X.env := by rfl) (hs2 : starEach [.Name tn p2] X.env = (false, eval (.Name tn p2) X.env) :: starEach [] X.env := by rfl)
    (hpl : (backTo pos (starEach [.Name tn p2] X.env)).any (·.1) = false := by rfl) : MEx X E (.Call (.Name "isinstance" p) [e, .Name tn p2] [] pos) (mIsi T c) := by
  refine (pe_callB call_isi hg hm boot_isinstance (pa_cons he (pa_cons (pe_bltn (v := .ty T) hgT hmT hvT rfl hnT hdT) pa_nil hs2) hs1) (by decide) (by decide) hs1 hpl).imp fun σ H Q ⟨W, η, m, s, n, p⟩ => ?_
  refine ⟨W, η, m, s, n, (Post.bind (Rl := Rep X.K) p).imp fun x H1 ⟨W1, d, m1, e1, s1, r1, p1⟩ => ?_⟩
  cases h : tyNm m1 d with
  | none => rw [h] at p1; exact p1.elim
  | some t =>
    rw [h] at p1
    cases hk : kitB t T with
    | none => simp only [Option.bind_some, hk] at p1; exact p1.elim
    | some b =>
      simp only [Option.bind_some, hk] at p1
      exact ⟨x, .ty T, .type t, .type T, b, rfl, .ty T, tyNm_ok s1 r1 h, kit_ty hk, p1.now s1 rep_bl⟩
end

/-! ### sources -/
def srcL (ds : List D) : Src := fun k _ => some ds[k]?
def srcLP (ds : List D) : Src × Nat := (srcL ds, ds.length)
def chD (x : Str) : List D := x.cps.toList.map fun c => .str ⟨#[c]⟩
def srcR (i : Nat) : Src := fun k m => (lstC m[i]?).map fun ds => ds[k]?
def srcOf (m : Mem) : D → Option (Src × Nat)
  | .tup ds => some (srcLP ds)
  | .lst ds => some (srcLP ds)
  | .scr ds => some (srcLP ds)
  | .str x => some (srcLP (chD x))
  | .ref i => (lstC m[i]?).map fun ds => (srcR i, ds.length)
  | _ => none
def mIt (c : EM) : IM := fun η m => (c η m).bind fun d m1 => match srcOf m1 d with
  | some p => .ok p m1
  | none => .stk
def rngD (lo : Int) (n : Nat) : List D := (List.range n).map fun k => .int (lo + (k : Nat))
@[irreducible] def rngB (j : Int) : Bool := decide (-(2 ^ 62) ≤ j ∧ j < 2 ^ 62)
theorem rngB_iff (j : Int) : rngB j = true ↔ (-(2 ^ 62) ≤ j ∧ j < 2 ^ 62) := by unfold rngB; exact decide_eq_true_iff
def mRng1 (a : EM) : IM := fun η m => (a η m).bind fun x m1 => match x with
  | .int j => if rngB j = true then .ok (srcLP (rngD 0 j.toNat)) m1 else .stk
  | _ => .stk
def mRng2 (a b : EM) : IM := fun η m => (a η m).bind fun x m1 => (b η m1).bind fun y m2 => match x, y with
  | .int i, .int j => if (rngB i && rngB j) = true then .ok (srcLP (rngD i (j - i).toNat)) m2 else .stk
  | _, _ => .stk
section
variable {X : Cx} {E : XK} {tg it : Expr} {K : PySem.W.Frag} {mg : Str → Option Value}
theorem _root_.L2.PI.imp {X : Cx} {tg it : Expr} {w w' : TI} (h : PI X tg it w) (k : ∀ σ H R, w' σ H R → w σ H R) : PI X tg it w' := ⟨fun pins s σ H R I q => h.run pins s σ H R I (k σ H R q)⟩
theorem _root_.L2.PI.or {X : Cx} {tg it : Expr} {w w' : TI} (h : PI X tg it w) (h' : PI X tg it w') : PI X tg it (fun σ H R => w σ H R ∨ w' σ H R) := ⟨fun pins s σ H R I q => by
  rcases q with q | q
  · exact h.run pins s σ H R I q
  · exact h'.run pins s σ H R I q⟩
theorem rngD_get {lo : Int} {n k : Nat} {d : D} (h : (rngD lo n)[k]? = some d) : k < n ∧ d = .int (lo + (k : Nat)) := by
  unfold rngD at h
  rw [List.getElem?_map] at h
  cases hk : (List.range n)[k]? with
  | none => rw [hk] at h; cases h
  | some j =>
    rw [hk] at h
    have := List.getElem?_eq_some_iff.mp hk
    obtain ⟨h1, h2⟩ := this
    rw [List.getElem_range] at h2
    rw [List.length_range] at h1
    subst h2
    cases h
    exact ⟨h1, rfl⟩
theorem rngD_none {lo : Int} {n k : Nat} (h : (rngD lo n)[k]? = none) : n ≤ k := by
  have := List.getElem?_eq_none_iff.mp h
  unfold rngD at this
  rw [List.length_map, List.length_range] at this
  exact this
theorem jok_rng {W : Wd} {H : Hp} {lo : Int} {n : Nat} : JOk K mg Rep W H (Itr lo n) (srcL (rngD lo n)) := by
  refine ⟨fun W' H' m k d _ s h => ?_, fun W' H' m k _ s h => ?_⟩
  · obtain ⟨h1, rfl⟩ := rngD_get (Option.some.inj h)
    refine ⟨h1, fun x H2 hy => ?_⟩
    obtain ⟨rfl, rfl⟩ := hy
    exact ⟨W', Ext.refl _ _, s, rep_int⟩
  · exact rngD_none (Option.some.inj h)
theorem mi_rng1 {a : Expr} {ca : EM} {p pos : Pos} (hm : X.mg "range" = none) (hg : Gl X "range") (ha : MEx X E a ca) (hs : starEach [a] X.env = [(false, eval a X.env)] := by rfl) : MI X E Rep tg (.Call (.Name "range" p) [a] [] pos) (mRng1 ca) := by
  refine (pi_range1 hg hm (ma_cons ha ma_nil hs) hs).imp fun σ H R ⟨W, η, m, s, n, p⟩ => ?_
  have q : Post X.K X.mg E (RlI X.K X.mg Rep) W H R ((mCons ca mNil η m).bind fun xs m1 => match xs with
    | [.int j] => if rngB j = true then .ok (srcLP (rngD 0 j.toNat)) m1 else .stk
    | _ => .stk) := by
    unfold mRng1 at p
    unfold mCons mNil
    cases h : ca η m with
    | ok d m1 => rw [h] at p; cases d <;> exact p
    | exc x m1 => rw [h] at p; exact p
    | stk => rw [h] at p; exact p
  refine ⟨W, η, m, s, n, (Post.bind (Rl := Reps X.K) q).imp fun xs H1 ⟨W1, ds, m1, e1, s1, r1, p1⟩ => ?_⟩
  split at p1
  · rename_i j
    obtain ⟨v, vr, rfl, k1, k2⟩ := r1.cons'
    rw [k2.nil', k1.int']
    split at p1
    · rename_i hj
      have hj := (rngB_iff j).mp hj
      exact ⟨j, rfl, hj.1, hj.2, p1.now s1 jok_rng⟩
    · exact p1.elim
  · exact p1.elim
theorem mi_rng2 {a b : Expr} {ca cb : EM} {p pos : Pos} (hm : X.mg "range" = none) (hg : Gl X "range") (ha : MEx X E a ca) (hb : MEx X E b cb) (hs : starEach [a, b] X.env = [(false, eval a X.env), (false, eval b X.env)] := by rfl) (hs2 : starEach [b] X.env = [(false, eval b X.env)] := by rfl) : MI X E Rep tg (.Call (.Name "range" p) [a, b] [] pos) (mRng2 ca cb) := by
  refine (pi_range2 hg hm (ma_cons ha (ma_cons hb ma_nil hs2) (by rw [hs, hs2])) hs hs2).imp fun σ H R ⟨W, η, m, s, n, p⟩ => ?_
  have q : Post X.K X.mg E (RlI X.K X.mg Rep) W H R ((mCons ca (mCons cb mNil) η m).bind fun xs m1 => match xs with
    | [.int i, .int j] => if (rngB i && rngB j) = true then .ok (srcLP (rngD i (j - i).toNat)) m1 else .stk
    | _ => .stk) := by
    unfold mRng2 at p
    unfold mCons mNil
    cases h : ca η m with
    | ok d m1 =>
      rw [h] at p
      simp only [bind_ok] at p ⊢
      cases h2 : cb η m1 with
      | ok d2 m2 => rw [h2] at p; cases d <;> cases d2 <;> exact p
      | exc x m2 => rw [h2] at p; exact p
      | stk => rw [h2] at p; exact p
    | exc x m1 => rw [h] at p; exact p
    | stk => rw [h] at p; exact p
  refine ⟨W, η, m, s, n, (Post.bind (Rl := Reps X.K) q).imp fun xs H1 ⟨W1, ds, m1, e1, s1, r1, p1⟩ => ?_⟩
  split at p1
  · rename_i i j
    obtain ⟨v, vr, rfl, k1, k2⟩ := r1.cons'
    obtain ⟨v2, vr2, rfl, k3, k4⟩ := k2.cons'
    rw [k4.nil', k1.int', k3.int']
    split at p1
    · rename_i hj
      rw [Bool.and_eq_true, rngB_iff, rngB_iff] at hj
      exact ⟨i, j, rfl, ⟨hj.1.1, hj.1.2, hj.2.1, hj.2.2⟩, p1.now s1 jok_rng⟩
    · exact p1.elim
  · exact p1.elim
theorem jok_tup {W : Wd} {H : Hp} {a : Addr} {ds : List D} {vs : List V} (q1 : SqF K H a vs) (q2 : Reps K W H ds vs) : JOk K mg Rep W H (Itt K a) (srcL ds) := by
  refine ⟨fun W' H' m k d e s h => ?_, fun W' H' m k e s h => ?_⟩
  · have t := (e.tr (K := K)).tp a vs q1
    obtain ⟨v, k1, k2⟩ := q2.get (Option.some.inj h)
    refine ⟨⟨vs, v, t.t, k1⟩, fun x H2 hy => ?_⟩
    obtain ⟨rfl, hx⟩ := hy
    have := hx vs t.t
    rw [k1] at this
    cases this
    exact ⟨W', Ext.refl _ _, s, k2.extZ e⟩
  · have t := (e.tr (K := K)).tp a vs q1
    have := List.getElem?_eq_none_iff.mp (Option.some.inj h)
    exact ⟨vs, t.t, by rw [q2.length]; exact this⟩
theorem jok_lst {W : Wd} {H : Hp} {a : Addr} {ds : List D} {vs : List V} (q1 : ∀ W' H', ExtZ W H W' H' → SqL K H' a vs) (q2 : Reps K W H ds vs) : JOk K mg Rep W H (Itl K a) (srcL ds) := by
  refine ⟨fun W' H' m k d e s h => ?_, fun W' H' m k e s h => ?_⟩
  · have t := q1 W' H' e
    obtain ⟨v, k1, k2⟩ := q2.get (Option.some.inj h)
    refine ⟨⟨vs, v, t, k1⟩, fun x H2 hy => ?_⟩
    obtain ⟨rfl, hx⟩ := hy
    have := hx vs t
    rw [k1] at this
    cases this
    exact ⟨W', Ext.refl _ _, s, k2.extZ e⟩
  · have := List.getElem?_eq_none_iff.mp (Option.some.inj h)
    exact ⟨vs, q1 W' H' e, by rw [q2.length]; exact this⟩
theorem jok_ref {W : Wd} {H : Hp} {a : Addr} {i : Nat} (e2 : W.i[i]? = some a) : JOk K mg Rep W H (Itl K a) (srcR i) := by
  refine ⟨fun W' H' m k d e s h => ?_, fun W' H' m k e s h => ?_⟩
  · unfold srcR at h
    cases hl : lstC m[i]? with
    | none => rw [hl] at h; cases h
    | some ds =>
      rw [hl] at h
      obtain ⟨vs, q1, q2⟩ := s.cell i a _ (e.tr (K := K) |>.rf i a e2) (cell_of hl)
      obtain ⟨v, k1, k2⟩ := q2.get (Option.some.inj h)
      refine ⟨⟨vs, v, .inl (.inl q1), k1⟩, fun x H2 hy => ?_⟩
      obtain ⟨rfl, hx⟩ := hy
      have := hx vs (.inl (.inl q1))
      rw [k1] at this
      cases this
      exact ⟨W', Ext.refl _ _, s, k2⟩
  · unfold srcR at h
    cases hl : lstC m[i]? with
    | none => rw [hl] at h; cases h
    | some ds =>
      rw [hl] at h
      obtain ⟨vs, q1, q2⟩ := s.cell i a _ (e.tr (K := K) |>.rf i a e2) (cell_of hl)
      have := List.getElem?_eq_none_iff.mp (Option.some.inj h)
      exact ⟨vs, .inl (.inl q1), by rw [q2.length]; exact this⟩
theorem jok_str {W : Wd} {H : Hp} {x : Str} : JOk K mg Rep W H (Its x) (srcL (x.cps.toList.map fun c => .str ⟨#[c]⟩)) := by
  refine ⟨fun W' H' m k d e s h => ?_, fun W' H' m k e s h => ?_⟩
  · have h := Option.some.inj h
    rw [List.getElem?_map] at h
    cases hc : x.cps.toList[k]? with
    | none => rw [hc] at h; cases h
    | some c =>
      rw [hc] at h
      cases h
      have hl : k < x.cps.size := by
        have := (List.getElem?_eq_some_iff.mp hc).1
        simpa using this
      refine ⟨hl, fun v H2 hy => ?_⟩
      obtain ⟨rfl, c', h1, rfl⟩ := hy
      have : x.cps[k]? = some c := by rw [← Array.getElem?_toList]; exact hc
      rw [this] at h1
      cases h1
      exact ⟨W', Ext.refl _ _, s, rep_str⟩
  · have h := List.getElem?_eq_none_iff.mp (Option.some.inj h)
    rw [List.length_map] at h
    show x.cps.size ≤ k
    simpa using h
theorem mi_it {c : EM} (he : MEx X E it c) : MI X E Rep tg it (mIt c) := by
  refine (((pi_list he).or (pi_tup he)).or (pi_str he)).imp fun σ H R ⟨W, η, m, s, n, p⟩ => ?_
  unfold mIt at p
  cases hc : c η m with
  | stk => rw [hc] at p; exact p.elim
  | exc x m1 =>
    rw [hc] at p
    refine .inl (.inl ⟨W, η, m, s, n, ?_⟩)
    rw [hc]
    exact p
  | ok d m1 =>
    rw [hc] at p
    replace p : Post X.K X.mg E (RlI X.K X.mg Rep) W H R (match srcOf m1 d with | some p => .ok p m1 | none => .stk) := p
    have lst : ∀ ds, (d = .lst ds ∨ d = .scr ds) → Post X.K X.mg E (RlI X.K X.mg Rep) W H R (.ok (srcLP ds) m1) → iList X.K (rdE X.K X.mg E c) σ H R := fun ds hd p => by
      refine ⟨W, η, m, s, n, ?_⟩
      rw [hc]
      intro v W1 H1 e1 s1 r1
      have key : ∃ a vs, v = .ref a ∧ (∀ W' H', ExtZ W1 H1 W' H' → SqL X.K H' a vs) ∧ Reps X.K W1 H1 ds vs := by
        rcases hd with rfl | rfl
        · obtain ⟨a, vs, e, q1, q2⟩ := r1.lst'
          exact ⟨a, vs, e, fun W' H' ez => .inl (.inl (ez.tr (K := X.K) |>.ls a _ q1).1), q2⟩
        · obtain ⟨a, vs, e, q1, q2⟩ := r1.scr'
          exact ⟨a, vs, e, fun W' H' ez => (ez.tr (K := X.K) |>.sc a vs q1).sq, q2⟩
      obtain ⟨a, vs, rfl, q1, q2⟩ := key
      exact ⟨a, rfl, ⟨vs, q1 W1 H1 (Ext.refl _ _).toZ⟩, p _ W1 H1 e1 s1 (jok_lst q1 q2)⟩
    cases d with
    | tup ds =>
      refine .inl (.inr ⟨W, η, m, s, n, ?_⟩)
      rw [hc]
      intro v W1 H1 e1 s1 r1
      obtain ⟨a, vs, rfl, q1, q2⟩ := r1.tupF'
      exact ⟨a, rfl, ⟨vs, q1.t⟩, p _ W1 H1 e1 s1 (jok_tup q1 q2)⟩
    | lst ds => exact .inl (.inl (lst ds (.inl rfl) p))
    | scr ds => exact .inl (.inl (lst ds (.inr rfl) p))
    | str x =>
      refine .inr ⟨W, η, m, s, n, ?_⟩
      rw [hc]
      intro v W1 H1 e1 s1 r1
      exact ⟨x, r1.str', p _ W1 H1 e1 s1 jok_str⟩
    | ref i =>
      refine .inl (.inl ⟨W, η, m, s, n, ?_⟩)
      rw [hc]
      intro v W1 H1 e1 s1 r1
      obtain ⟨a, rfl, e2⟩ := r1.ref'
      replace p : Post X.K X.mg E (RlI X.K X.mg Rep) W H R (match (lstC m1[i]?).map fun ds => (srcR i, ds.length) with | some p => .ok p m1 | none => .stk) := p
      cases hl : lstC m1[i]? with
      | none => rw [hl] at p; exact p.elim
      | some ds =>
        rw [hl] at p
        obtain ⟨vs, q1, q2⟩ := s1.cell i a _ e2 (cell_of hl)
        exact ⟨a, rfl, ⟨vs, .inl (.inl q1)⟩, p _ W1 H1 e1 s1 (jok_ref e2)⟩
    | _ => exact p.elim
end

/-! ### comprehensions -/
section
variable {X : Cx} {E : XK}
theorem mts_nil : PTs X [] (rdT X.K X.mg E mYes) := ⟨fun pins s σ H Q I h => pts_nil.run pins s σ H Q I (by
  obtain ⟨W, η, m, s, n, p⟩ := h
  exact p.now s rfl)⟩
theorem mts_one {c : Expr} {t : TM} (h : MT X E c t) : PTs X [c] (rdT X.K X.mg E t) := pts_one h
theorem me_lc {Rx : RX} (al : Bool) {elt tg iter : Expr} {ifs : List Expr} {scope : Scope} (own : List (Str × Nat)) {pos : Pos} {ci : IM} {g : GM} {t : TM} {e : EM} (hc : X.calm = true) (hN : X.N.Nodup) (hi : MI X E Rx tg iter ci) (ok : BlkOk X.N X.env.scope scope own)
    (hg : ∀ (s : Shared) (H : Hp) (C : Addr) (cl : List (Str × Addr)) (fp : List Addr), MG (X.blk s H scope (compEnvC scope cl C X.env) fp) E0 Rx (own.map (·.2)) tg g) (ht : ∀ (s : Shared) (H : Hp) (C : Addr) (cl : List (Str × Addr)) (fp : List Addr), PTs (X.blk s H scope (compEnvC scope cl C X.env) fp) ifs (rdT X.K X.mg E0 t))
    (he : ∀ (s : Shared) (H : Hp) (C : Addr) (cl : List (Str × Addr)) (fp : List Addr), MEx (X.blk s H scope (compEnvC scope cl C X.env) fp) E0 elt e) (hs : ∀ x, foldedSetIterable iter X.env x = pure x := by intro _; rfl) :
    MEx X E (.ListComp elt [⟨tg, iter, ifs, 0⟩] scope pos) (mLc (own.map (·.2)) al ci g t e) := (pe_lc hc hN hi ok hg ht he hs).imp fun σ H Q h => lc_of h
theorem ms_setLc {Rx : RX} (al : Bool) {i : Nat} {y : Str} {py : Pos} {elt tg iter : Expr} {ifs : List Expr} {scope : Scope} (own : List (Str × Nat)) {pos spos : Pos} {ci : IM} {g : GM} {t : TM} {e : EM} (hc : X.calm = true) (hN : X.N.Nodup) (hy : X.N[i]? = some y) (hyl : X.env.scope.names.lookup y = some .local)
    (hsw : swapsWith (.ListComp elt [⟨tg, iter, ifs, 0⟩] scope pos) (some (.Name y py)) spos.line X.env = pure true) (hi : MI X E Rx tg iter ci) (ok : BlkOk X.N X.env.scope scope own)
    (hg : ∀ (s : Shared) (H : Hp) (C : Addr) (cl : List (Str × Addr)) (fp : List Addr), MG (X.blk s H scope (compEnvC scope cl C X.env) fp) E0 Rx (own.map (·.2)) tg g) (ht : ∀ (s : Shared) (H : Hp) (C : Addr) (cl : List (Str × Addr)) (fp : List Addr), PTs (X.blk s H scope (compEnvC scope cl C X.env) fp) ifs (rdT X.K X.mg E0 t))
    (he : ∀ (s : Shared) (H : Hp) (C : Addr) (cl : List (Str × Addr)) (fp : List Addr), MEx (X.blk s H scope (compEnvC scope cl C X.env) fp) E0 elt e) (hs : ∀ x, foldedSetIterable iter X.env x = pure x := by intro _; rfl) :
    MS X E (.Assign [.Name y py] (.ListComp elt [⟨tg, iter, ifs, 0⟩] scope pos) spos) (mAsg (mLc (own.map (·.2)) al ci g t e) (gNm i)) := (ps_setLc hc hN hy hyl hsw hi ok hg ht he hs).imp fun Dn σ H ⟨W, η, m, s, n, p⟩ =>
  lc_of ⟨W, η, m, s, n, (PostS.bind (Rl := Rep X.K) p).imp fun x H1 ⟨W1, d, m1, e1, s1, r1, p1⟩ => p1 _ W1 H1 (Ext.refl _ _) s1 ((n.ext e1).set r1)⟩
end

/-! ### defs -/
abbrev FM := List D → Mem → R D
def mFn (n N : Nat) (body : SM) : FM := fun ds m => if ds.length = n then (match body (ds.map some ++ List.replicate (N - ds.length) none) m with
  | .nxt _ m' => .ok .non m'
  | .ret d m' => .ok d m'
  | .exc x m' => .exc x m'
  | _ => .stk) else .stk
def sp0 (K : PySem.W.Frag) (mg : Str → Option Value) (fm : FM) : Sp := fun vs H Q _ => ∃ W m ds, Sim K mg W H m ∧ Reps K W H ds vs ∧ Post K mg E0 (Rep K) W H Q (fm ds m)
section
variable {P : Program} {w : World} {K : PySem.W.Frag} {mg : Str → Option Value} {base : Heap}
theorem renv_start {W : Wd} {H : Hp} {N : List Str} {ds : List D} {vs : List V} (r : Reps K W H ds vs) : REnv K W H (ds.map some ++ List.replicate (N.length - ds.length) none) (L2.start N vs) := by
  refine ⟨?_, fun i d h => ?_⟩
  · unfold L2.start
    rw [List.length_append, List.length_append, List.length_map, List.length_map, List.length_replicate, List.length_replicate, r.length]
  · by_cases hi : i < ds.length
    · rw [List.getElem?_append_left (by rw [List.length_map]; exact hi), List.getElem?_map, List.getElem?_eq_getElem hi] at h
      cases h
      obtain ⟨v, k1, k2⟩ := r.get (List.getElem?_eq_getElem hi)
      refine ⟨v, ?_, k2⟩
      unfold L2.start
      rw [List.getElem?_append_left (by rw [List.length_map, r.length]; exact hi), List.getElem?_map, k1]
      rfl
    · rw [List.getElem?_append_right (by rw [List.length_map]; omega), List.getElem?_replicate] at h
      split at h <;> cases h
theorem fn_ok0 {x qual : Str} {st : Stmt} {f : Addr} {fd : FuncData} {N ps : List Str} {k : Nat} {body : SM} (F : Fun K x qual st f fd) (S : FnScope N ps (defScope st))
    (h : ∀ (cdv : Value) (A : Around) (outer : List Env) (s : Shared) (H : Hp) (E : XK), Room k (A.deeper (envOfC qual (defScope st) s.heap.objs.size f cdv)) → MSs (cxOf CX0 P w K mg base N qual (defScope st) f cdv A outer s H E).nox E0 (defBody st) body) :
    FnOk P w K mg base CX0 (k + 1) f fd ps (sp0 K mg (mFn ps.length N.length body)) := by
  have hlen : ∀ {vs H Q E}, sp0 K mg (mFn ps.length N.length body) vs H Q E → vs.length = ps.length := fun {vs H Q E} ⟨W, m, ds, s, r, p⟩ => by
    unfold mFn at p
    split at p
    · rename_i hl
      rw [r.length]
      exact hl
    · exact p.elim
  refine F.ok S (fun vs H Q E q => hlen q) (fun cdv A outer s H vs Q E hr q => ?_)
  have hl := hlen q
  obtain ⟨W, m, ds, sm, r, p⟩ := q
  refine ⟨_, h cdv A outer s H E hr, W, ds.map some ++ List.replicate (N.length - ds.length) none, m, sm, renv_start r, ?_⟩
  unfold mFn at p
  rw [if_pos (by rw [← r.length]; exact hl)] at p
  revert p
  generalize body (ds.map some ++ List.replicate (N.length - ds.length) none) m = res
  intro p
  cases res with
  | nxt η m' => exact fun σ W' H' e s n => p .non W' H' e s rep_non
  | ret d m' => exact fun v W' H' e s n => p v W' H' e s n
  | exc x m' => exact p
  | brk η m' => exact p.elim
  | cnt η m' => exact p.elim
  | stk => exact p.elim
/-- a def of the module and its mirror -/
structure FnD (P : Program) (w : World) (K : PySem.W.Frag) (mg : Str → Option Value) (base : Heap) (k : Nat) (x : Str) (ps : List Str) (fm : FM) : Prop where
  ex : ∃ f fd, mg x = some (.ref f) ∧ PySem.W.keepIn K (.ref f) = true ∧ Binds K fd ps [] ∧ FnOk P w K mg base CX0 k f fd ps (sp0 K mg fm)
theorem FnD.mono {j k : Nat} {x : Str} {ps : List Str} {fm : FM} (h : FnD P w K mg base j x ps fm) (hk : j ≤ k) : FnD P w K mg base k x ps fm := by
  obtain ⟨f, fd, h1, h2, h3, h4⟩ := h.ex
  exact ⟨f, fd, h1, h2, h3, h4.mono hk⟩
end
def mCall (fm : FM) (a : AM) : EM := fun η m => (a η m).bind fun xs m1 => noX (fm xs m1)
section
variable {X : Cx} {E : XK} {k : Nat} {x : Str} {ps : List Str} {fm : FM} {p pos : Pos} {e : Expr} {es : List Expr} {ca : AM}
theorem me_call (F : FnD X.prog X.w X.K X.mg X.base k x ps fm) (hr : Room k X.A) (hg : Gl X x) (ha : MA X E (e :: es) ca) (hdb : (x == ("__debug__" : Str)) = false := by decide) (he : starEach (e :: es) X.env = (false, eval e X.env) :: starEach es X.env := by rfl) (hpl : (backTo pos (starEach es X.env)).any (·.1) = false := by rfl) :
    MEx X E (.Call (.Name x p) (e :: es) [] pos) (mCall fm ca) := by
  obtain ⟨f, fd, h1, h2, h3, h4⟩ := F.ex
  refine (pe_call h4 hr hg h1 h2 h3 .nil pass0 ha hdb he hpl).imp fun σ H Q ⟨W, η, m, s, n, p⟩ => ?_
  refine ⟨W, η, m, s, n, (Post.bind (Rl := Reps X.K) p).imp fun xs H1 ⟨W1, ds, m1, e1, s1, r1, p1⟩ => ?_⟩
  refine ⟨W1, m1, ds, s1, by rw [List.append_nil]; exact r1, Post.nox p1⟩
end
end Mir

/-! Mir, calls with keywords and defaults. -/
namespace Mir
open PySem PySem.Spec PyProof.Rows L2

/-- picked by places -/
def arr {α : Type} (ix : List Nat) (l : List α) : List α := ix.filterMap fun i => l[i]?
theorem arr_reps {K : PySem.W.Frag} {W : Wd} {H : Hp} {ds : List D} {vs : List V} (r : Reps K W H ds vs) : ∀ ix : List Nat, Reps K W H (arr ix ds) (arr ix vs)
  | [] => reps_nil
  | i :: ix => by
    have ih := arr_reps r ix
    unfold arr at ih ⊢
    rw [List.filterMap_cons, List.filterMap_cons]
    cases h : ds[i]? with
    | none =>
      have : vs[i]? = none := by
        rw [List.getElem?_eq_none_iff] at h ⊢
        rw [r.length]
        exact h
      rw [this]
      exact ih
    | some d =>
      obtain ⟨v, k1, k2⟩ := r.get h
      rw [k1]
      exact reps_cons k2 ih
theorem arr_vals {vs : List V} {us : List Value} (r : Vals vs us) : ∀ ix : List Nat, Vals (arr ix vs) (arr ix us)
  | [] => .nil
  | i :: ix => by
    have ih := arr_vals r ix
    unfold arr at ih ⊢
    rw [List.filterMap_cons, List.filterMap_cons]
    cases h : vs[i]? with
    | none =>
      rw [Vals.none_of r h]
      exact ih
    | some d =>
      obtain ⟨v, k1, k2⟩ := Vals.get r h
      rw [k1]
      exact .cons k2 ih
/-- a call by n places, the keywords ks, the defaults dd behind -/
structure FnK (P : Program) (w : World) (K : PySem.W.Frag) (mg : Str → Option Value) (base : Heap) (k : Nat) (x : Str) (n : Nat) (ks : List Str) (ix : List Nat) (dd : List D) (fm : FM) : Prop where
  ex : ∃ f fd ps dvs dv, mg x = some (.ref f) ∧ PySem.W.keepIn K (.ref f) = true ∧ Vals dvs dv ∧ (∀ W H, Reps K W H dd dvs) ∧
    (∀ (s : Shared) (us ws : List Value), K.In s.heap → us.length = n → ws.length = ks.length → BindsTo s fd ⟨us, ks.zip ws⟩ (ps.zip (arr ix (us ++ ws ++ dv)))) ∧ FnOk P w K mg base CX0 k f fd ps (sp0 K mg fm)
def mCallK (n m : Nat) (ix : List Nat) (dd : List D) (fm : FM) (a b : AM) : EM := fun η mm => (a η mm).bind fun xs m1 => (b η m1).bind fun ys m2 => if xs.length = n ∧ ys.length = m then noX (fm (arr ix (xs ++ ys ++ dd)) m2) else .stk
abbrev MK (X : Cx) (E : XK) (e : List Keyword) (c : AM) : Prop := PK X e (rdA X.K X.mg E c)
section
variable {X : Cx} {E : XK} {k n : Nat} {x : Str} {ks : List Str} {ix : List Nat} {dd : List D} {fm : FM} {p pos kpos : Pos} {e : Expr} {es : List Expr} {kws : List Keyword} {ca cb : AM} {ce : EM} {nm : Option Str}
theorem mk_nil : MK X E [] mNil := pk_nil.imp fun σ H Q ⟨W, η, m, s, n, p⟩ => p.now s reps_nil
theorem mk_cons (ha : MEx X E e ce) (hr : MK X E kws cb) : MK X E (⟨nm, e, kpos⟩ :: kws) (mCons ce cb) := (pk_cons ha hr).imp fun _ _ _ h => cons_of h
theorem run_k {f : Addr} {fd : FuncData} {ps : List Str} {dvs : List V} {dv : List Value} {pins : List (Addr × Obj)} {σ : SL} {H : Hp} {s : Shared} {Q : VK} {us ws : List Value} {vs zs : List V} {W : Wd} {m : Mem} {xs ys : List D}
    (F : FnOk X.prog X.w X.K X.mg X.base CX0 k f fd ps (sp0 X.K X.mg fm)) (hr : Room k X.A) (hdv : Vals dvs dv) (hdd : ∀ W H, Reps X.K W H dd dvs)
    (hb : ∀ (s : Shared) (us ws : List Value), X.K.In s.heap → us.length = n → ws.length = ks.length → BindsTo s fd ⟨us, ks.zip ws⟩ (ps.zip (arr ix (us ++ ws ++ dv))))
    (I : L2.Inv X pins σ H s) (r : Vals vs us) (rz : Vals zs ws) (sm : Sim X.K X.mg W H m) (r1 : Reps X.K W H xs vs) (r2 : Reps X.K W H ys zs) (hx : xs.length = n) (hy : ys.length = ks.length)
    (h : Post X.K X.mg E (Rep X.K) W H Q (noX (fm (arr ix (xs ++ ys ++ dd)) m))) : wpAny (model X.prog X.w) X.A (call (.ref f) us (ks.zip ws)) (EP X pins σ Q) X.xe s := by
  have l1 : us.length = n := by rw [← r.length, r1.length, hx]
  have l2 : ws.length = ks.length := by rw [← rz.length, r2.length, hy]
  have rr : Vals (arr ix (vs ++ zs ++ dvs)) (arr ix (us ++ ws ++ dv)) := arr_vals ((r.append rz).append hdv) ix
  refine wpAny_call (codeAny_mono (F.run X.A X.stack s H ⟨us, ks.zip ws⟩ _ _ Q E0 hr I.env0 (hb s us ws I.kIn l1 l2) rr ⟨W, m, _, sm, arr_reps ((r1.append r2).append (hdd W H)) ix, Post.nox h⟩) fun r s' hq => ?_)
  cases r with
  | error e => exact False.elim hq
  | ok fl =>
    cases fl with
    | ret u => exact I.after hq
    | next => exact False.elim hq
    | brk => exact False.elim hq
    | cont => exact False.elim hq
theorem me_callK0 (F : FnK X.prog X.w X.K X.mg X.base k x 0 ks ix dd fm) (hr : Room k X.A) (hg : Gl X x) (hkw : MK X E kws cb) (hall : (backToKw pos (keywordEach kws X.env)).all (·.1.isSome) = true := by rfl) (hks : (backToKw pos (keywordEach kws X.env)).filterMap (·.1) = ks := by rfl)
    (hdb : (x == ("__debug__" : Str)) = false := by decide) (hpl : ((backTo pos (starEach [] X.env)).any (·.1) || (backToKw pos (keywordEach kws X.env)).any (·.1.isNone)) = false := by rfl) :
    MEx X E (.Call (.Name x p) [] kws pos) (mCallK 0 ks.length ix dd fm mNil cb) := by
  obtain ⟨f, fd, ps, dvs, dv, h1, h2, h3, h4, h5, h6⟩ := F.ex
  refine ⟨fun pins s σ H Q I ⟨W, η, m, sm, nn, p⟩ => ?_⟩
  refine wpAny_Call_Name_kw (ld_glob I hg h1 ?_ hdb)
  refine PySem.W.callWith_KW0 (h₀ := X.base) I.ok.mod.kin h2 hall (thn (hkw.run pos pins s σ H _ I ⟨W, η, m, sm, nn, Post.bind (Rl := Reps X.K) (show Post X.K X.mg E (Rep X.K) W H Q ((cb η m).bind _) from p)⟩) fun ws s2 ⟨zs, H2, I2, rz, W2, ys, m2, e2, s2', r2, p2⟩ => ⟨I2.kIn, ?_⟩) hpl
  rw [hks]
  by_cases hl : ([] : List D).length = 0 ∧ ys.length = ks.length
  · rw [if_pos hl] at p2
    exact run_k (us := []) (vs := []) (xs := []) h6 hr h3 h4 h5 I2 .nil rz s2' reps_nil r2 rfl hl.2 p2
  · rw [if_neg hl] at p2
    exact p2.elim
/-- a def without defaults, by keywords -/
theorem fnk_of {P : Program} {w : World} {K : PySem.W.Frag} {mg : Str → Option Value} {base : Heap} {x qual : Str} {st : Stmt} {f : Addr} {fd : FuncData} {ps : List Str} {k n : Nat} {ks : List Str} {ix : List Nat} {fm : FM} (F : Fun K x qual st f fd) (hm : mg x = some (.ref f)) (ok : FnOk P w K mg base CX0 k f fd ps (sp0 K mg fm))
    (h : ∀ (kV doc pm : Value) (an : Option Addr) (cdv ct : Value) (us ws : List Value), us.length = n → ws.length = ks.length → bindArgs (PySem.W.fnOf x qual (defArgs st) (defBody st) (defScope st) .none kV doc pm an cdv ct) ⟨us, ks.zip ws⟩ = pure (ps.zip (arr ix (us ++ ws)))) :
    FnK P w K mg base k x n ks ix [] fm := by
  have kp := F.kp
  obtain ⟨oc, od, kV, doc, pm, an, cdv, ct, osl, rfl, lk, hcd⟩ := F.ex
  exact ⟨f, _, ps, [], [], hm, kp, .nil, fun _ _ => reps_nil, fun s us ws _ l1 l2 => .of_eq (by rw [List.append_nil]; exact h kV doc pm an cdv ct us ws l1 l2), ok⟩
end
end Mir

/-! Mir: while, a op= b, a, b = x, y, int, str, defaults. -/
namespace Mir
open PySem PySem.Spec PyProof.Rows L2

/-! ### while -/
def mWh (c : TM) (body : SM) : Nat → Env' → Mem → RS
  | 0, _, _ => .stk
  | f + 1, η, m => (c η m).toS fun k m1 => if k = true then (match body η m1 with
      | .nxt η2 m2 => mWh c body f η2 m2
      | .cnt η2 m2 => mWh c body f η2 m2
      | .brk η2 m2 => .nxt η2 m2
      | r => r) else .nxt η m1
@[irreducible] def FUEL : Nat := 10 ^ 4000
def mWhile (c : TM) (body : SM) : SM := fun η m => mWh c body FUEL η m
section
variable {X : Cx} {E : XK} {pos : Pos}
theorem ms_while {t : Expr} {body : List Stmt} {tc : TM} {cb : SM} (hp : PassesOwn (model X.prog X.w) X.A X.env X.xe) (hc : MT X E t tc) (hb : MSs X E body cb) : MS X E (.While t body [] pos) (mWhile tc cb) := by
  refine (ps_while hp hc hb).imp fun Dn σ H ⟨W, η, m, s, n, p⟩ => ?_
  refine ⟨fun f σ H => ∃ W η m, Sim X.K X.mg W H m ∧ REnv X.K W H η σ ∧ PostS X.K X.mg E W H Dn (mWh tc cb f η m), ⟨FUEL, W, η, m, s, n, p⟩, fun f σ H ⟨W, η, m, s2, n2, p2⟩ => ?_⟩
  cases f with
  | zero => exact p2.elim
  | succ f =>
    unfold mWh at p2
    refine ⟨W, η, m, s2, n2, (PostS.bind (Rl := Same') p2).imp fun b H1 ⟨W1, b', m1, e1, s1, hb', p3⟩ => ?_⟩
    cases (show b' = b from hb')
    cases b with
    | false =>
      rw [if_neg Bool.false_ne_true] at p3 ⊢
      exact p3 σ W1 H1 (Ext.refl _ _) s1 (n2.ext e1)
    | true =>
      rw [if_pos rfl] at p3 ⊢
      refine ⟨fun σ' H' => ∃ W η m, Sim X.K X.mg W H' m ∧ REnv X.K W H' η σ' ∧ PostS X.K X.mg E W H' Dn (mWh tc cb f η m), fun σ' H' h => ⟨f, Nat.lt_succ_self f, h⟩, W1, η, m1, s1, n2.ext e1, ?_⟩
      revert p3
      generalize cb η m1 = r
      intro p3
      cases r with
      | nxt η5 m5 => exact fun σ5 W5 H5 e5 s5 n5 => ⟨W5, η5, m5, s5, n5, PostS.ext e5 p3⟩
      | cnt η5 m5 => exact fun σ5 W5 H5 e5 s5 n5 => ⟨W5, η5, m5, s5, n5, PostS.ext e5 p3⟩
      | brk η5 m5 => exact p3
      | ret d5 m5 => exact p3
      | exc x5 m5 => exact p3
      | stk => exact p3
end

/-! ### a op= e at a name; a, b = x, y -/
def mPar (i j : Nat) (a : AM) : SM := fun η m => (a η m).toS fun xs m1 => match xs with
  | [x, y] => .nxt ((η.set i (some x)).set j (some y)) m1
  | _ => .stk
section
variable {X : Cx} {E : XK} {pos : Pos} {e : Expr} {ce : EM}
theorem ms_par {i j : Nat} {x y : Str} {a b : Expr} {ta : AM} {px py pt : Pos} {kt k2 pt2} (hc : X.calm = true) (hN : X.N.Nodup) (hi : X.N[i]? = some x) (hj : X.N[j]? = some y) (hij : i ≠ j)
    (hx : X.env.scope.names.lookup x = some .local) (hy : X.env.scope.names.lookup y = some .local) (ha : MA X E [a, b] ta)
    (hw : swappedStores [.Tuple [.Name x px, .Name y py] kt pt] (.Tuple [a, b] k2 pt2) X.env = pure (some [x, y]) := by rfl)
    (hs : swapsWithSole [.Tuple [.Name x px, .Name y py] kt pt] (.Tuple [a, b] k2 pt2) pos.line X.env = pure false := by rfl) :
    MS X E (.Assign [.Tuple [.Name x px, .Name y py] kt pt] (.Tuple [a, b] k2 pt2) pos) (mPar i j ta) := (ps_par hc hN hi hj hij hx hy ha hw hs).imp fun Dn σ H ⟨W, η, m, s, n, p⟩ =>
  ⟨W, η, m, s, n, (PostS.bind (Rl := Reps X.K) p).imp fun vs H1 ⟨W1, ds, m1, e1, s1, r1, p1⟩ => by
    split at p1
    · rename_i d1 d2
      obtain ⟨v, vr, rfl, k1, k2⟩ := r1.cons'
      obtain ⟨w, vr2, rfl, k3, k4⟩ := k2.cons'
      rw [k4.nil']
      exact ⟨v, w, rfl, p1 _ W1 H1 (Ext.refl _ _) s1 (((n.ext e1).set k1).set k3)⟩
    · exact p1.elim⟩
end

/-! ### int, str -/
def bInt (ds : List D) (m : Mem) : R D := match ds with
  | [.int i] => .ok (.int i) m
  | [.bl b] => .ok (.int (if b then 1 else 0)) m
  | [.str a] => match PySem.intText? a with
    | some n => if a.length ≤ 640 then .ok (.int n) m else .stk
    | none => .stk
  | _ => .stk
section
variable {X : Cx} {E : XK}
theorem cm_int : CallR X (.type "int") (rCM X.K X.mg E bInt) := by
  rintro pins s σ H xs us Q I rv ⟨W, m, ds, sm, rs, p⟩
  unfold bInt at p
  split at p
  · obtain ⟨v, vr, rfl, r1, r2⟩ := rs.cons'
    rw [r2.nil', r1.int'] at rv
    exact call_int1 pins s σ H _ us Q I rv (.inl ⟨_, rfl, p.now sm rep_int⟩)
  · obtain ⟨v, vr, rfl, r1, r2⟩ := rs.cons'
    rw [r2.nil', r1.bl'] at rv
    exact call_int1 pins s σ H _ us Q I rv (.inr ⟨_, rfl, p.now sm rep_int⟩)
  · obtain ⟨v, vr, rfl, r1, r2⟩ := rs.cons'
    rw [r2.nil', r1.str'] at rv
    split at p
    · rename_i n hn
      split at p
      · rename_i hl
        exact call_int_str pins s σ H _ us Q I rv ⟨_, n, rfl, hn, hl, p.now sm rep_int⟩
      · exact p.elim
    · exact p.elim
  · exact p.elim
end

/-! ### a def with defaults -/
section
variable {P : Program} {w : World} {K : PySem.W.Frag} {mg : Str → Option Value} {base : Heap}
/-- a def as it stands behind the top, with the tuple of its defaults -/
structure FunT (K : PySem.W.Frag) (x qual : Str) (st : Stmt) (dvs : List V) (f : Addr) (fd : FuncData) : Prop where
  ex : ∃ (oc : Value) (od : Option Addr) (T : Addr) (o : Obj) (its : List Value) (n : Nat) (kV doc pm : Value) (an : Option Addr) (cdv ct : Value) (osl : Array (Option Value)),
    fd = PySem.W.fnOf x qual (defArgs st) (defBody st) (defScope st) (.ref T) kV doc pm an cdv ct ∧ K.lookup f = some ⟨oc, od, .func fd, osl⟩ ∧ PySem.W.codeIn K cdv qual = true ∧ K.lookup T = some o ∧ o.data = .seq its.toArray n ∧ Vals dvs its
  kp : PySem.W.keepIn K (.ref f) = true
end
end Mir

/-! Mir: min, max, sum. -/
namespace Mir
open PySem PySem.Spec PyProof.Rows L2

def bMin (ds : List D) (m : Mem) : R D := match ds with
  | [.int i, .int j] => .ok (.int (if j < i then j else i)) m
  | _ => .stk
def bMax (ds : List D) (m : Mem) : R D := match ds with
  | [.int i, .int j] => .ok (.int (if j > i then j else i)) m
  | _ => .stk
/-- of a list of ints -/
def minL : List Int → Option Int
  | [] => none
  | x :: xs => some (xs.foldl (fun a b => if b < a then b else a) x)
/-! ### tuples of ints -/
section
variable {prog : Program} {w : World} {A : Around} {E : Value → Shared → Prop} {s : Shared} {l : Addr} {its : List Value} {ns : List Int} {Q : Value → Shared → Prop}
end
section
variable {X : Cx} {E : XK}
theorem cm_max2 (hc : X.calm = true) : CallR X (.builtin "max") (rCM X.K X.mg E bMax) := by
  rintro pins s σ H xs us Q I rv ⟨W, m, ds, sm, rs, p⟩
  unfold bMax at p
  split at p
  · obtain ⟨v, vr, rfl, r1, r2⟩ := rs.cons'
    obtain ⟨v2, vr2, rfl, r3, r4⟩ := r2.cons'
    rw [r4.nil', r1.int', r3.int'] at rv
    exact call_max2 hc pins s σ H _ us Q I rv ⟨_, _, rfl, p.now sm rep_int⟩
  · exact p.elim
end
end Mir

/-! Mir: f-strings, split, partition, a text times an int. -/
namespace Mir
open PySem PySem.Spec PyProof.Rows L2

def repS (x : Str) (n : Int) : Str := if n < 1 then Str.empty else if (n == 1 || x.length == 0) = true then x else ⟨(List.replicate n.toNat x.cps).foldl (· ++ ·) #[]⟩
def gMulS (d e : D) (m : Mem) : R D := match d, e with
  | .str x, .int n => if -(2 ^ 63) ≤ n ∧ n < 2 ^ 63 ∧ x.length * n.toNat ≤ sizeLine then .ok (.str (repS x n)) m else .stk
  | _, _ => .stk
section
variable {X : Cx} {E : XK}
inductive MJ (X : Cx) (E : XK) : List Expr → List EM → Prop where
  | nil : MJ X E [] []
  | cons {e : Expr} {c : EM} {es : List Expr} {cs : List EM} (h : MEx X E e c) (r : MJ X E es cs) : MJ X E (e :: es) (c :: cs)
theorem reps_strs {K : PySem.W.Frag} {W : Wd} {H : Hp} : ∀ ys : List Str, Reps K W H (ys.map .str) (ys.map V.str)
  | [] => reps_nil
  | y :: ys => ⟨_, _, rfl, rep_str, reps_strs ys⟩
theorem om_mulS : OpM X E (binaryOp .Mult) gMulS := by
  rintro pins s σ H x y v u Q I rx ry ⟨W, m, d, e, sm, rd, re, p⟩
  unfold gMulS at p
  split at p
  · rename_i x n
    rw [rd.str'] at rx
    rw [re.int'] at ry
    obtain ⟨t, rfl⟩ := rx
    obtain ⟨u, rfl⟩ := ry
    split at p
    · rename_i hl
      obtain ⟨h1, h2, h3⟩ := hl
      have q := p.now sm rep_str
      unfold repS at q
      refine P.mul_str ?_ ?_ ?_ ?_
      · rw [decide_eq_false (by omega), decide_eq_false (by omega)]; rfl
      · intro hn hb
        have hz : (sizeLine : Int) ≤ (2 ^ 63 - 1) := by decide
        have hxn : (x.length : Int) * n ≤ 2 ^ 63 - 1 := by
          have : ((x.length * n.toNat : Nat) : Int) ≤ (sizeLine : Nat) := by omega
          rw [Int.natCast_mul, Int.toNat_of_nonneg (by omega)] at this
          omega
        have := (Int.le_ediv_iff_mul_le (show 0 < n by omega)).mpr hxn
        omega
      · intro hn hb
        have hz : ¬ (x.length * n.toNat > sizeLine) := by omega
        simp only [Builtin.Str.tooLong, decide_eq_false_iff_not]
        exact hz
      · split
        · rename_i hn
          rw [if_pos hn] at q
          exact ⟨by decide, .str _, H, I.tok _, ⟨_, rfl⟩, q⟩
        · rename_i hn
          rw [if_neg hn] at q
          split
          · rename_i hb
            rw [if_pos hb] at q
            exact ⟨.str _, H, I, ⟨_, rfl⟩, q⟩
          · rename_i hb
            rw [if_neg hb] at q
            refine ⟨?_, .str _, H, I.tok _, ⟨_, rfl⟩, q⟩
            show Array.size _ ≤ sizeLine
            rw [size_reps]
            have : x.cps.size * n.toNat ≤ sizeLine := h3
            rw [Nat.mul_comm n.toNat]
            simpa using this
    · exact p.elim
  · exact p.elim
end
end Mir

/-! Mir: zip and enumerate, over lists and tuples in any mix. -/
namespace Mir
open PySem PySem.Spec PyProof.Rows L2

/-- a list or a tuple -/
inductive SK where
  | l | t
def SqK (K : PySem.W.Frag) (H : Hp) (k : SK) (a : Addr) (xs : List V) : Prop := match k with
  | .l => SqL K H a xs
  | .t => SqT K H a xs
def IsIt (h : Heap) (k : SK) (it a : Addr) (i : Nat) : Prop := match k with
  | .l => h.IsListIter it a i
  | .t => h.IsTupleIter it a i
def IsSq (h : Heap) (k : SK) (a : Addr) (items : Array Value) : Prop := match k with
  | .l => h.IsList a items
  | .t => h.IsTuple a items
def itObj (k : SK) (a : Addr) : Obj := match k with
  | .l => { cls := .type "list_iterator", data := .fields #[.ref a, .int 0 0] }
  | .t => { cls := .type "tuple_iterator", data := .fields #[.ref a, .int 0 0] }
theorem drawsK {prog : Program} {w : World} {A : Around} (k : SK) (hh : A.handled = none) (it a : Addr) (hne : a ≠ it) (items : Array Value) :
    Draws prog w A it [it, a] items.size (fun i v => items[i]? = some v) (fun i h => IsIt h k it a i ∧ IsSq h k a items) := by
  cases k with
  | l => exact Draws.list hh it a hne items
  | t => exact Draws.tuple hh it a hne items
theorem beginsK (k : SK) (a : Addr) (items : Array Value) : Begins (.ref a) (itObj k a) fun h => IsSq h k a items := by
  cases k with
  | l => exact begins_list a items
  | t => exact begins_tuple a items
theorem itObj_is {h : Heap} {k : SK} {it a : Addr} (e : h.get? it = some (itObj k a)) : IsIt h k it a 0 := by
  cases k with
  | l => exact ⟨_, e, rfl, rfl⟩
  | t => exact ⟨_, e, rfl, rfl⟩
theorem IsIt.get {h : Heap} {k : SK} {it a : Addr} {i : Nat} (x : IsIt h k it a i) : ∃ o vs, h.get? it = some o ∧ o.data = .fields vs := by
  cases k with
  | l => obtain ⟨o, e, _, d⟩ := x; exact ⟨o, _, e, d⟩
  | t => obtain ⟨o, e, _, d⟩ := x; exact ⟨o, _, e, d⟩
theorem IsIt.at {h h' : Heap} {k : SK} {it a : Addr} {i : Nat} (x : IsIt h k it a i) (hk : ∀ o, h.get? it = some o → h'.get? it = some o) : IsIt h' k it a i := by
  cases k with
  | l => exact Heap.IsListIter.at x hk
  | t => exact Heap.IsTupleIter.at x hk
theorem sqK {X : Cx} {pins : List (Addr × Obj)} {σ : SL} {H : Hp} {s : Shared} {k : SK} {a : Addr} {xs : List V} (I : Inv X pins σ H s) (h : SqK X.K H k a xs) : ∃ its : List Value, Vals xs its ∧ IsSq s.heap k a its.toArray ∧ a < s.heap.objs.size ∧ xs.length ≤ sizeLine := by
  cases k with
  | l =>
    obtain ⟨its, r, p, z⟩ := I.list h
    exact ⟨its, r, p.isList, p.lt, z⟩
  | t =>
    obtain ⟨its, r, p, z⟩ := I.tuple h
    obtain ⟨o, e, _⟩ := id p
    exact ⟨its, r, p, Heap.lt_size e, z⟩
theorem sqK_inj {X : Cx} {pins : List (Addr × Obj)} {σ : SL} {H : Hp} {s : Shared} {k : SK} {a : Addr} {xs ys : List V} (I : Inv X pins σ H s) (h : SqK X.K H k a xs) (h' : SqK X.K H k a ys) : xs = ys := by
  cases k with
  | l => exact I.list_inj h h'
  | t => exact I.tuple_inj h h'

/-! ### zip -/
def ItZ (K : PySem.W.Frag) (k1 k2 : SK) (a b : Addr) : It :=
  ⟨fun i H => ∃ (xs ys : List V) (x y : V), SqK K H k1 a xs ∧ SqK K H k2 b ys ∧ xs[i]? = some x ∧ ys[i]? = some y,
    fun i H v H' => ∃ T x y, v = .ref T ∧ H T = none ∧ H' = upd H T (.tup [x, y]) ∧ (∀ xs, SqK K H k1 a xs → xs[i]? = some x) ∧ ∀ ys, SqK K H k2 b ys → ys[i]? = some y,
    fun i H => ∃ xs ys : List V, SqK K H k1 a xs ∧ SqK K H k2 b ys ∧ (i = min xs.length ys.length)⟩
theorem turn_Z {P : Program} {w : World} {K : PySem.W.Frag} {elts : List Expr} {kk : Nat} {tpos : Pos} {k1 k2 : SK} {a b z TI TO i1 i2 : Addr} (D : ZipSep2 z TI TO i1 i2 [i1, a] [i2, b]) :
    Turn P w K (.Tuple elts kk tpos) (ItZ K k1 k2 a b) [z, TI, TO, i1, i2] z (fun i h => IsZip h z TI TO .none ∧ IsTupOf2 h TI (.ref i1) (.ref i2) ∧ (∃ x y, IsTupOf2 h TO x y) ∧ IsIt h k1 i1 a i ∧ IsIt h k2 i2 b i) where
  mem := by simp
  obj := fun i h st c hc => by
    obtain ⟨hz, hTI, ⟨x, y, hTO⟩, h1, h2⟩ := st
    obtain ⟨o1, v1, e1, d1⟩ := h1.get
    obtain ⟨o2, v2, e2, d2⟩ := h2.get
    have e' : c = z ∨ c = TI ∨ c = TO ∨ c = i1 ∨ c = i2 := by simpa using hc
    rcases e' with q | q | q | q | q
    · rw [q]; exact ⟨_, hz, fun v q => nomatch q⟩
    · rw [q]; exact ⟨_, hTI, fun v q => nomatch q⟩
    · rw [q]; exact ⟨_, hTO, fun v q => nomatch q⟩
    · rw [q]; exact ⟨o1, e1, fun v q => by rw [d1] at q; cases q⟩
    · rw [q]; exact ⟨o2, e2, fun v q => by rw [d2] at q; cases q⟩
  keep := fun i h h' st k => by
    obtain ⟨hz, hTI, ⟨x, y, hTO⟩, h1, h2⟩ := st
    exact ⟨k z (by simp) _ hz, k TI (by simp) _ hTI, ⟨x, y, k TO (by simp) _ hTO⟩, h1.at fun o q => k i1 (by simp) o q, h2.at fun o q => k i2 (by simp) o q⟩
  item := by
    intro X hP hw hK hc i pins s σ H E I hf st hg
    subst hP hw hK
    obtain ⟨hz, hTI, hTO, h1, h2⟩ := st
    obtain ⟨xs, ys, x, y, hqx, hqy, hx, hy⟩ := hg
    obtain ⟨its, rv, p, _, _⟩ := sqK I hqx
    obtain ⟨its2, rv2, p2, _, _⟩ := sqK I hqy
    obtain ⟨u, hu, ru⟩ := rv.get hx
    obtain ⟨u2, hu2, ru2⟩ := rv2.get hy
    have hh : X.A.in1.handled = none := I.ok.hd hc
    have n1 : a ≠ i1 := fun e => by
      subst e
      exact absurd D.mem1 (fun _ => by
        obtain ⟨o1, v1, e1, d1⟩ := h1.get
        cases k1 with
        | l => obtain ⟨o, e, _, n, d⟩ := p; rw [e1] at e; cases e; rw [d1] at d; cases d
        | t => obtain ⟨o, e, _, n, d⟩ := p; rw [e1] at e; cases e; rw [d1] at d; cases d)
    have n2 : b ≠ i2 := fun e => by
      subst e
      exact absurd D.mem2 (fun _ => by
        obtain ⟨o1, v1, e1, d1⟩ := h2.get
        cases k2 with
        | l => obtain ⟨o, e, _, n, d⟩ := p2; rw [e1] at e; cases e; rw [d1] at d; cases d
        | t => obtain ⟨o, e, _, n, d⟩ := p2; rw [e1] at e; cases e; rw [d1] at d; cases d)
    have G := GoesN.zip2 (prog := X.prog) (w := X.w) (A := X.A) (elts := elts) (x1 := kk) (pos := tpos) D (drawsK k1 hh i1 a n1 its.toArray) (drawsK k2 hh i2 b n2 its2.toArray)
    have hi1 : i < its.length := (List.getElem?_eq_some_iff.mp hu).1
    have hi2 : i < its2.length := (List.getElem?_eq_some_iff.mp hu2).1
    refine wpAny_mono (G.goes i s (fun v s2 => ∃ x H', Inv X pins σ H' s2 ∧ RelV x v ∧ (ItZ X.K k1 k2 a b).yld i H x H' ∧ (IsZip s2.heap z TI TO .none ∧ IsTupOf2 s2.heap TI (.ref i1) (.ref i2) ∧ (∃ x y, IsTupOf2 s2.heap TO x y) ∧ IsIt s2.heap k1 i1 a (i + 1) ∧ IsIt s2.heap k2 i2 b (i + 1)) ∧ ∀ c ∈ [z, TI, TO, i1, i2], H' c = none) E (by simp; omega) ⟨hz, hTI, hTO, ⟨h1, p⟩, ⟨h2, p2⟩⟩ fun v h' tk hY st' hk ht => ?_) (fun r s1 h => h) (fun _ _ h => h)
    obtain ⟨T, w1, w2, rfl, hT, e1, e2, hTup⟩ := hY
    have e1 : w1 = u := by
      have : its.toArray[i]? = some u := by simpa using hu
      rw [this] at e1; cases e1; rfl
    have e2 : w2 = u2 := by
      have : its2.toArray[i]? = some u2 := by simpa using hu2
      rw [this] at e2; cases e2; rfl
    subst e1 e2
    have hn : H T = none := I.hok.fresh hT
    have new : ObjOk X.prog X.w (upd H T (.tup [x, y])) h' T (.tup [x, y]) :=
      ⟨by show 2 ≤ sizeLine; decide, [w1, w2], .cons ru (.cons ru2 .nil), hTup⟩
    have hsub : ∀ c, c ∈ [z, TO, i1, i2] → c ∈ [z, TI, TO, i1, i2] := fun c hcm => by
      have : c = z ∨ c = TO ∨ c = i1 ∨ c = i2 := by simpa using hcm
      rcases this with q | q | q | q <;> simp [q]
    have I1 : Inv X pins σ (upd H T (.tup [x, y])) { s with heap := h', toks := tk } :=
      I.turnedNew (ch := [z, TO, i1, i2]) (fun c o hb q => hk c o hb q) (fun c hcm => hf c (hsub c hcm)) hT new
    refine ⟨.ref T, _, I1, rfl, ⟨T, x, y, rfl, hn, rfl, fun l hl => by rw [sqK_inj I hl hqx]; exact hx, fun l hl => by rw [sqK_inj I hl hqy]; exact hy⟩, ⟨st'.1, st'.2.1, st'.2.2.1, st'.2.2.2.1.1, st'.2.2.2.2.1⟩, fun c hcm => ?_⟩
    have hlt : c < s.heap.objs.size := by
      obtain ⟨x0, y0, hTO⟩ := hTO
      obtain ⟨o1, v1, e1, d1⟩ := h1.get
      obtain ⟨o2, v2, e2, d2⟩ := h2.get
      have e' : c = z ∨ c = TI ∨ c = TO ∨ c = i1 ∨ c = i2 := by simpa using hcm
      rcases e' with q | q | q | q | q
      · rw [q]; exact Heap.lt_size hz
      · rw [q]; exact Heap.lt_size hTI
      · rw [q]; exact Heap.lt_size hTO
      · rw [q]; exact Heap.lt_size e1
      · rw [q]; exact Heap.lt_size e2
    rw [upd_ne (Nat.ne_of_lt (Nat.lt_of_lt_of_le hlt hT))]
    exact (hf c hcm).1
  done := by
    intro X hP hw hK hc i pins s σ H E I hf st hg
    subst hP hw hK
    obtain ⟨hz, hTI, hTO, h1, h2⟩ := st
    obtain ⟨xs, ys, hqx, hqy, hi⟩ := hg
    obtain ⟨its, rv, p, _, _⟩ := sqK I hqx
    obtain ⟨its2, rv2, p2, _, _⟩ := sqK I hqy
    have hh : X.A.in1.handled = none := I.ok.hd hc
    have n1 : a ≠ i1 := fun e => by
      subst e
      obtain ⟨o1, v1, e1, d1⟩ := h1.get
      cases k1 with
      | l => obtain ⟨o, e, _, n, d⟩ := p; rw [e1] at e; cases e; rw [d1] at d; cases d
      | t => obtain ⟨o, e, _, n, d⟩ := p; rw [e1] at e; cases e; rw [d1] at d; cases d
    have n2 : b ≠ i2 := fun e => by
      subst e
      obtain ⟨o1, v1, e1, d1⟩ := h2.get
      cases k2 with
      | l => obtain ⟨o, e, _, n, d⟩ := p2; rw [e1] at e; cases e; rw [d1] at d; cases d
      | t => obtain ⟨o, e, _, n, d⟩ := p2; rw [e1] at e; cases e; rw [d1] at d; cases d
    have G := GoesN.zip2 (prog := X.prog) (w := X.w) (A := X.A) (elts := elts) (x1 := kk) (pos := tpos) D (drawsK k1 hh i1 a n1 its.toArray) (drawsK k2 hh i2 b n2 its2.toArray)
    have l1 := rv.length
    have l2 := rv2.length
    have e : min its.toArray.size its2.toArray.size = i := by simp; omega
    rw [e] at G
    refine G.stops s (fun s1 => Inv X pins σ H s1) E ⟨hz, hTI, hTO, ⟨h1, p⟩, ⟨h2, p2⟩⟩ fun h' tk hk _ => ?_
    have hsub : ∀ c, c ∈ [z, TO, i1, i2] → c ∈ [z, TI, TO, i1, i2] := fun c hcm => by
      have : c = z ∨ c = TO ∨ c = i1 ∨ c = i2 := by simpa using hcm
      rcases this with q | q | q | q <;> simp [q]
    exact I.turnedL (ch := [z, TO, i1, i2]) (fun c o hb q => hk c o hb q) (fun c hcm => hf c (hsub c hcm))
  self := fun A i s Q E st h => wpAny_pyIter_zip st.1 h
/-- a sequence that zip and enumerate walk: a list or a tuple, told by its data -/
def srcZ (f g : Mem → Option (List D)) : Src := fun k m => match f m, g m with
  | some xs, some ys => match xs[k]?, ys[k]? with
    | some x, some y => some (some (.tup [x, y]))
    | _, _ => if k = min xs.length ys.length then some none else none
  | _, _ => none
/-- how the data of a thing that is walked is read at a memory -/
def rdS1 : D → Mem → Option (List D)
  | .tup ds, _ => some ds
  | d, m => lstOf m d
def mZip (a b : EM) : IM := fun η m => (a η m).bind fun x m1 => (b η m1).bind fun y m2 => match rdS1 x m2, rdS1 y m2 with
  | some xs, some ys => .ok (srcZ (rdS1 x) (rdS1 y), min xs.length ys.length) m2
  | _, _ => .stk
section
variable {K : PySem.W.Frag} {mg : Str → Option Value}
def kindD : D → SK
  | .tup _ => .t
  | _ => .l
/-- a thing that is walked, at any later world -/
theorem walked {W W' : Wd} {H H' : Hp} {m : Mem} {d : D} {v : V} {ds : List D} (r : Rep K W H d v) (e : ExtZ W H W' H') (s : Sim K mg W' H' m) (h : rdS1 d m = some ds) : ∃ a vs, v = .ref a ∧ SqK K H' (kindD d) a vs ∧ Reps K W' H' ds vs := by
  have r' := r.extZ e
  cases d with
  | tup xs =>
    cases h
    obtain ⟨a, vs, e1, q1, q2⟩ := r'.tup'
    exact ⟨a, vs, e1, q1, q2⟩
  | lst xs => obtain ⟨a, vs, e1, q1, q2⟩ := s.lst r' (ds := ds) h; exact ⟨a, vs, e1, q1, q2⟩
  | scr xs => obtain ⟨a, vs, e1, q1, q2⟩ := s.lst r' (ds := ds) h; exact ⟨a, vs, e1, q1, q2⟩
  | ref i => obtain ⟨a, vs, e1, q1, q2⟩ := s.lst r' (ds := ds) h; exact ⟨a, vs, e1, q1, q2⟩
  | _ => cases h
theorem repW_new {W : Wd} {H : Hp} {m : Mem} {T : Addr} {x y : V} {d e : D} (s : Sim K mg W H m) (hT : H T = none) (r1 : Rep K W H d x) (r2 : Rep K W H e y) :
    Ext W H W (upd H T (.tup [x, y])) ∧ Sim K mg W (upd H T (.tup [x, y])) m ∧ RepW K W (upd H T (.tup [x, y])) (.tup [d, e]) (.ref T) :=
  ⟨Ext.fresh hT, s.fresh hT, .inr ⟨[d, e], T, [x, y], rfl, rfl, .inl (.inl upd_same), (reps_cons r1 (reps_one r2)).ext (Ext.fresh hT)⟩⟩
theorem jok_zip {W : Wd} {H : Hp} {x y : D} {a b : Addr} (r1 : Rep K W H x (.ref a)) (r2 : Rep K W H y (.ref b)) : JOk K mg RepW W H (ItZ K (kindD x) (kindD y) a b) (srcZ (rdS1 x) (rdS1 y)) where
  go := fun W' H' m k d e s hs => by
    unfold srcZ at hs
    split at hs
    · rename_i xs ys h1 h2
      obtain ⟨a', vs, e1, q1, q2⟩ := walked r1 e s h1
      obtain ⟨b', us, e2, q3, q4⟩ := walked r2 e s h2
      cases e1
      cases e2
      split at hs
      · rename_i x' y' g1 g2
        cases hs
        obtain ⟨v, k1, k2⟩ := q2.get g1
        obtain ⟨u, k3, k4⟩ := q4.get g2
        refine ⟨⟨vs, us, v, u, q1, q3, k1, k3⟩, fun z H2 hy => ?_⟩
        obtain ⟨T, v', u', rfl, hT, rfl, f1, f2⟩ := hy
        have := f1 vs q1
        rw [k1] at this
        cases this
        have := f2 us q3
        rw [k3] at this
        cases this
        obtain ⟨n1, n2, n3⟩ := repW_new s hT k2 k4
        exact ⟨W', n1, n2, n3⟩
      · split at hs <;> cases hs
    · cases hs
  stop := fun W' H' m k e s hs => by
    unfold srcZ at hs
    split at hs
    · rename_i xs ys h1 h2
      obtain ⟨a', vs, e1, q1, q2⟩ := walked r1 e s h1
      obtain ⟨b', us, e2, q3, q4⟩ := walked r2 e s h2
      cases e1
      cases e2
      split at hs
      · cases hs
      · split at hs
        · rename_i hk
          exact ⟨vs, us, q1, q3, by rw [q2.length, q4.length]; exact hk⟩
        · cases hs
    · cases hs
end
section
variable {X : Cx} {E : XK} {pos : Pos}
theorem nm2 {c x y : Nat} (h1 : c ≠ x) (h2 : c ≠ y) : (show Addr from c) ∉ ([x, y] : List Addr) := fun h => by
  rcases List.mem_cons.mp h with h | h
  · exact h1 h
  · rcases List.mem_cons.mp h with h | h
    · exact h2 h
    · cases h
theorem sep_new (N a b : Nat) (l1 : a < N) (l2 : b < N) : ZipSep2 (N + 4) (N + 2) (N + 3) N (N + 1) [N, a] [N + 1, b] := by
  have e1 : N + 2 ≠ N + 4 := by omega
  have e2 : N + 3 ≠ N + 4 := by omega
  have e3 : N + 2 ≠ N + 3 := by omega
  have e4 : N + 2 ≠ N := by omega
  have e5 : N + 2 ≠ N + 1 := by omega
  exact ⟨e1, e2, e3, e4, List.mem_cons_self, nm2 (by omega) (by omega), nm2 (by omega) (by omega), e5, List.mem_cons_self, nm2 (by omega) (by omega), nm2 (by omega) (by omega), nm2 (by omega) (by omega), nm2 (by omega) (by omega)⟩
theorem mi_zip {e e2 : Expr} {ca cb : EM} {p tpos : Pos} {elts : List Expr} {kk : Nat} (hm : X.mg "zip" = none) (hg : Gl X "zip") (ha : MEx X E e ca) (hb : MEx X E e2 cb)
    (hs : starEach [e, e2] X.env = (false, eval e X.env) :: starEach [e2] X.env := by rfl) (hpl : (backTo pos (starEach [e2] X.env)).any (·.1) = false := by rfl) (hs2 : starEach [e2] X.env = (false, eval e2 X.env) :: starEach [] X.env := by rfl) :
    MI X E RepW (.Tuple elts kk tpos) (.Call (.Name "zip" p) [e, e2] [] pos) (mZip ca cb) := by
  refine ⟨fun pins s σ H R I h => ?_⟩
  obtain ⟨W, η, m, sm, n, pp⟩ := h
  have h2 : (tCons (rdE X.K X.mg E ca) (tCons (rdE X.K X.mg E cb) (rdA X.K X.mg E mNil))) σ H (fun vs H1 => ∃ x y W1 m1 d1 d2, vs = [x, y] ∧ Sim X.K X.mg W1 H1 m1 ∧ Rep X.K W1 H1 d1 x ∧ Rep X.K W1 H1 d2 y ∧ Post X.K X.mg E (RlI X.K X.mg RepW) W1 H1 R (match rdS1 d1 m1, rdS1 d2 m1 with
      | some xs, some ys => .ok (srcZ (rdS1 d1) (rdS1 d2), min xs.length ys.length) m1
      | _, _ => .stk)) := by
    refine ⟨W, η, m, sm, n, (Post.bind (Rl := Rep X.K) pp).imp fun x H1 ⟨W1, d1, m1, e1, s1, r1, p1⟩ => ?_⟩
    refine ⟨W1, η, m1, s1, n.ext e1, (Post.bind (Rl := Rep X.K) p1).imp fun y H2 ⟨W2, d2, m2, e2, s2, r2, p2⟩ => ?_⟩
    exact ⟨W2, η, m2, s2, (n.ext e1).ext e2, fun b W' H' ex s' r' => by
      rw [Reps.nil' r']
      exact ⟨x, y, W', m2, d1, d2, rfl, s', (r1.ext e2).ext ex, r2.ext ex, Post.ext ex p2⟩⟩
  have hA : PA X [e, e2] (tCons (rdE X.K X.mg E ca) (tCons (rdE X.K X.mg E cb) (rdA X.K X.mg E mNil))) := pa_cons ha (pa_cons hb ma_nil hs2) hs
  refine Call_ (ld_blt I hg hm PyProof.Rows.boot_zip (PyProof.Rows.callWith_type1 (thn (hA.run pos pins s σ H _ I h2) fun us s1 ⟨vs, H1, I1, rv, q1⟩ => ?_) hs hpl))
  obtain ⟨x, y, W1, m1, d1, d2, rfl, sm1, r1, r2, q⟩ := q1
  split at q
  · rename_i xs ys h1 h2
    obtain ⟨a, vs, e1, k1, k2⟩ := walked r1 (Ext.refl _ _).toZ sm1 h1
    obtain ⟨b, us', e2, k3, k4⟩ := walked r2 (Ext.refl _ _).toZ sm1 h2
    subst e1 e2
    cases rv with
    | cons r rr =>
    cases rr with
    | cons r' rr =>
    cases rr
    cases r
    cases r'
    obtain ⟨its, rv1, p1, l1, _⟩ := sqK I1 k1
    obtain ⟨its2, rv2, p2, l2, _⟩ := sqK I1 k3
    refine zip_begins2 (beginsK (kindD d1) a its.toArray) (beginsK (kindD d2) b its2.toArray) p1 p2 fun h' hz hTI hTO g1 g2 hsz hk => wpAny_pyIter_zip hz ?_
    have I2 : Inv X pins σ H1 { s1 with heap := h' } := I1.kept (t' := s1.toks) hk
    refine ⟨s1.heap.objs.size + 4, [s1.heap.objs.size + 4, s1.heap.objs.size + 2, s1.heap.objs.size + 3, s1.heap.objs.size, s1.heap.objs.size + 1], _, _, H1, rfl, I2, turn_Z (k1 := kindD d1) (k2 := kindD d2) (a := a) (b := b) ?_, ⟨hz, hTI, ⟨_, _, hTO⟩, itObj_is g1, itObj_is g2⟩, fun c hcm => ?_, ?_⟩
    · exact sep_new _ a b l1 l2
    · have e' : c = s1.heap.objs.size + 4 ∨ c = s1.heap.objs.size + 2 ∨ c = s1.heap.objs.size + 3 ∨ c = s1.heap.objs.size ∨ c = s1.heap.objs.size + 1 := by simpa using hcm
      have hle : s1.heap.objs.size ≤ c := by
        rcases e' with z | z | z | z | z
        · rw [z]; exact Nat.le_add_right _ _
        · rw [z]; exact Nat.le_add_right _ _
        · rw [z]; exact Nat.le_add_right _ _
        · rw [z]; exact Nat.le_refl _
        · rw [z]; exact Nat.le_add_right _ _
      exact I1.fpOk hle (I1.hok.fresh hle)
    · exact q.now sm1 (jok_zip r1 r2)
  · exact q.elim
end

/-! ### enumerate -/
theorem meets_enumerate_new1 {v : Value} {o : Obj} {H : Heap → Prop} (B : Begins v o H) :
    Meets (Builtin.«enumerate.__new__» ⟨[.type "enumerate", v], []⟩) (fun _ R s => H s.heap ∧
      R (.ok (.ret (.ref (s.heap.push o).objs.size))) { s with heap := (s.heap.push o).push { cls := .type "enumerate", data := .fields #[.none, .bool false, .ref s.heap.objs.size, rawInt 0, .none, .none] } }) :=
  .of_wp fun prog w A R s h => by
    obtain ⟨hp, g, d, tk, os⟩ := s; obtain ⟨h1, h⟩ := h
    have hsub := sub_enumerate
    have q1 : ∀ {A' : Around} {E : Value → Shared → Prop} {Q : Value → Shared → Prop}, Q (.ref hp.objs.size) ⟨hp.push o, g, d, tk, os⟩ → wpAny (model prog w) A' (pyIter v) Q E ⟨hp, g, d, tk, os⟩ :=
      fun q => B.iter prog w _ _ ⟨hp, g, d, tk, os⟩ _ h1 q
    wp_walk using q1
    refine wpAny_stack_any fun st => wpAny_pure ?_
    split
    · rename_i c _ _ _ _ _
      cases (c == Value.type "enumerate")
      · wp_walk using q1
        exact ⟨_, rfl, h⟩
      · wp_walk using q1
        exact ⟨_, rfl, h⟩
    · wp_walk using q1
      exact ⟨_, rfl, h⟩
theorem enum_begins1 {prog : Program} {w : World} {A : Around} {E : Value → Shared → Prop} {s : Shared} {v : Value} {o : Obj} {H : Heap → Prop} {Q : Value → Shared → Prop} (B : Begins v o H) (h1 : H s.heap)
    (h : ∀ h', IsEnum h' (s.heap.objs.size + 1) s.heap.objs.size 0 .none → h'.get? s.heap.objs.size = some o → h'.objs.size = s.heap.objs.size + 2 →
      (∀ b o, s.heap.get? b = some o → h'.get? b = some o) → Q (.ref (s.heap.objs.size + 1)) { s with heap := h' }) :
    wpAny (model prog w) A (call (.type "enumerate") [v]) Q E s := by
  refine callType_new F.called_enumerate (by decide) (F.typeCall_enumerate_1 _) (F.newCall_enumerate_1 _) (fun obj => F.args_object_init_2 obj _) F.entry_enumerate_new
    (meets_enumerate_new1 B) ⟨h1, ?_⟩
  have hz : (s.heap.push o).objs.size = s.heap.objs.size + 1 := Heap.size_push ..
  show _ ∧ _
  rw [hz]
  have he : IsEnum ((s.heap.push o).push { cls := .type "enumerate", data := .fields #[.none, .bool false, .ref s.heap.objs.size, rawInt 0, .none, .none] }) (s.heap.objs.size + 1) s.heap.objs.size 0 .none := by
    have := Heap.get?_push_size (s.heap.push o) (o := { cls := .type "enumerate", data := .fields #[.none, .bool false, .ref s.heap.objs.size, rawInt 0, .none, .none] }) rfl
    rw [hz] at this; exact this
  refine ⟨⟨_, he, rfl⟩, h _ he (Heap.get?_push_of_some _ (Heap.get?_push_size _ B.free)) (by rw [Heap.size_push, hz]) fun b o x => Heap.get?_push_of_some _ (Heap.get?_push_of_some _ x)⟩
def ItE (K : PySem.W.Frag) (c : Int) (k : SK) (a : Addr) : It :=
  ⟨fun i H => ∃ (xs : List V) (x : V), SqK K H k a xs ∧ xs[i]? = some x, fun i H v H' => ∃ T x, v = .ref T ∧ H T = none ∧ H' = upd H T (.tup [.int (c + (i : Nat)), x]) ∧ ∀ xs, SqK K H k a xs → xs[i]? = some x, fun i H => ∃ xs : List V, SqK K H k a xs ∧ xs.length = i⟩
theorem IsIt.ne {h : Heap} {k : SK} {it a : Addr} {i : Nat} {its : Array Value} (x : IsIt h k it a i) (p : IsSq h k a its) : a ≠ it := fun e => by
  subst e
  obtain ⟨o1, v1, e1, d1⟩ := x.get
  cases k with
  | l => obtain ⟨o, e, _, n, d⟩ := p; rw [e1] at e; cases e; rw [d1] at d; cases d
  | t => obtain ⟨o, e, _, n, d⟩ := p; rw [e1] at e; cases e; rw [d1] at d; cases d
theorem turn_E {P : Program} {w : World} {K : PySem.W.Frag} {elts : List Expr} {kk : Nat} {tpos : Pos} {c : Int} {k : SK} (a e it : Addr) (hei : e ≠ it) (hea : e ≠ a) :
    Turn P w K (.Tuple elts kk tpos) (ItE K c k a) [e, it] e (fun i h => (∃ old, IsEnum h e it (c + ((i : Nat) : Int)) old) ∧ IsIt h k it a i) where
  mem := by simp
  obj := fun i h st b hb => by
    obtain ⟨⟨old, he⟩, hi⟩ := st
    obtain ⟨o, vs, ho, hd⟩ := hi.get
    have e' : b = e ∨ b = it := by simpa using hb
    rcases e' with z | z
    · rw [z]; exact ⟨_, he, fun v q => nomatch q⟩
    · rw [z]; exact ⟨o, ho, fun v q => by rw [hd] at q; cases q⟩
  keep := fun i h h' st k => let ⟨⟨old, he⟩, hi⟩ := st; ⟨⟨old, k e (by simp) _ he⟩, hi.at fun o q => k it (by simp) o q⟩
  item := by
    intro X hP hw hK hc i pins s σ H E I hf st hg
    subst hP hw hK
    obtain ⟨hE, hit⟩ := st
    obtain ⟨xs, x, hq, hx⟩ := hg
    obtain ⟨its, rv, p, _, _⟩ := sqK I hq
    obtain ⟨u, hu, ru⟩ := rv.get hx
    have hh : X.A.in1.handled = none := I.ok.hd hc
    have G := GoesN.enumFrom (prog := X.prog) (w := X.w) (A := X.A) (elts := elts) (x1 := kk) (pos := tpos) c (drawsK k hh it a (hit.ne p) its.toArray) e hei (nm2 hei hea) List.mem_cons_self
    have hi1 : i < its.length := (List.getElem?_eq_some_iff.mp hu).1
    refine wpAny_mono (G.goes i s (fun v s2 => ∃ x H', Inv X pins σ H' s2 ∧ RelV x v ∧ (ItE X.K c k a).yld i H x H' ∧ ((∃ old, IsEnum s2.heap e it (c + ((i + 1 : Nat) : Int)) old) ∧ IsIt s2.heap k it a (i + 1)) ∧ ∀ b ∈ [e, it], H' b = none) E (by simpa using hi1) ⟨hE, ⟨hit, p⟩⟩ fun v h' tk hY st' hk ht => ?_) (fun r s1 h => h) (fun _ _ h => h)
    obtain ⟨T, t, w1, rfl, hT, e1, hTup⟩ := hY
    have e1 : w1 = u := by
      have : its.toArray[i]? = some u := by simpa using hu
      rw [this] at e1; cases e1; rfl
    subst e1
    have hn : H T = none := I.hok.fresh hT
    have new : ObjOk X.prog X.w (upd H T (.tup [.int (c + (i : Nat)), x])) h' T (.tup [.int (c + (i : Nat)), x]) :=
      ⟨by show 2 ≤ sizeLine; decide, [.int (c + (i : Nat)) t, w1], .cons ⟨_, rfl⟩ (.cons ru .nil), hTup⟩
    have I1 : Inv X pins σ (upd H T (.tup [.int (c + (i : Nat)), x])) { s with heap := h', toks := tk } :=
      I.turnedNew (ch := [e, it]) (fun c o hb q => hk c o hb q) hf hT new
    refine ⟨.ref T, _, I1, rfl, ⟨T, x, rfl, hn, rfl, fun l hl => by rw [sqK_inj I hl hq]; exact hx⟩, ⟨st'.1, st'.2.1⟩, fun b hb => ?_⟩
    have hlt : b < s.heap.objs.size := by
      obtain ⟨old, he⟩ := hE
      obtain ⟨o1, v1, e1, d1⟩ := hit.get
      have e' : b = e ∨ b = it := by simpa using hb
      rcases e' with q | q
      · rw [q]; exact Heap.lt_size he
      · rw [q]; exact Heap.lt_size e1
    rw [upd_ne (Nat.ne_of_lt (Nat.lt_of_lt_of_le hlt hT))]
    exact (hf b hb).1
  done := by
    intro X hP hw hK hc i pins s σ H E I hf st hg
    subst hP hw hK
    obtain ⟨hE, hit⟩ := st
    obtain ⟨xs, hq, hi⟩ := hg
    obtain ⟨its, rv, p, _, _⟩ := sqK I hq
    have hh : X.A.in1.handled = none := I.ok.hd hc
    have G := GoesN.enumFrom (prog := X.prog) (w := X.w) (A := X.A) (elts := elts) (x1 := kk) (pos := tpos) c (drawsK k hh it a (hit.ne p) its.toArray) e hei (nm2 hei hea) List.mem_cons_self
    have l1 := rv.length
    have e : its.toArray.size = i := by simp; omega
    rw [e] at G
    exact G.stops s (fun s1 => Inv X pins σ H s1) E ⟨hE, ⟨hit, p⟩⟩ fun h' tk hk _ => I.turnedL (ch := [_, it]) (fun c o hb q => hk c o hb q) hf
  self := fun A i s Q E st h => let ⟨⟨_, he⟩, _⟩ := st; wpAny_pyIter_enum he h
def srcE (c : Int) (f : Mem → Option (List D)) : Src := fun k m => match f m with
  | some xs => match xs[k]? with
    | some x => some (some (.tup [.int (c + (k : Nat)), x]))
    | none => if k = xs.length then some none else none
  | none => none
def mEnum (c : Int) (a : EM) : IM := fun η m => (a η m).bind fun x m1 => match rdS1 x m1 with
  | some xs => .ok (srcE c (rdS1 x), xs.length) m1
  | none => .stk
theorem jok_enum {K : PySem.W.Frag} {mg : Str → Option Value} {W : Wd} {H : Hp} {x : D} {a : Addr} {c : Int} (r1 : Rep K W H x (.ref a)) : JOk K mg RepW W H (ItE K c (kindD x) a) (srcE c (rdS1 x)) where
  go := fun W' H' m k d e s hs => by
    unfold srcE at hs
    split at hs
    · rename_i xs h1
      obtain ⟨a', vs, e1, q1, q2⟩ := walked r1 e s h1
      cases e1
      split at hs
      · rename_i x' g1
        cases hs
        obtain ⟨v, k1, k2⟩ := q2.get g1
        refine ⟨⟨vs, v, q1, k1⟩, fun z H2 hy => ?_⟩
        obtain ⟨T, v', rfl, hT, rfl, f1⟩ := hy
        have := f1 vs q1
        rw [k1] at this
        cases this
        obtain ⟨n1, n2, n3⟩ := repW_new s hT rep_int k2
        exact ⟨W', n1, n2, n3⟩
      · split at hs <;> cases hs
    · cases hs
  stop := fun W' H' m k e s hs => by
    unfold srcE at hs
    split at hs
    · rename_i xs h1
      obtain ⟨a', vs, e1, q1, q2⟩ := walked r1 e s h1
      cases e1
      split at hs
      · cases hs
      · split at hs
        · rename_i hk
          exact ⟨vs, q1, by rw [q2.length]; exact hk.symm⟩
        · cases hs
    · cases hs
section
variable {X : Cx} {E : XK} {pos : Pos}
theorem enum_fin {f : Sem Value} {R : It → Hp → Prop} {c : Int} {pins : List (Addr × Obj)} {σ : SL} {elts : List Expr} {kk : Nat} {tpos : Pos} {W : Wd} {H : Hp} {m : Mem} {d : D} {x : V} {u : Value} {s : Shared} (I : Inv X pins σ H s) (rv : RelV x u) (sm : Sim X.K X.mg W H m) (r1 : Rep X.K W H d x) (q : Post X.K X.mg E (RlI X.K X.mg RepW) W H R (match rdS1 d m with
      | some xs => .ok (srcE c (rdS1 d), xs.length) m
      | none => .stk)) (hcall : ∀ a its, u = .ref a → IsSq s.heap (kindD d) a its → ∀ {Q : Value → Shared → Prop}, (∀ h', IsEnum h' (s.heap.objs.size + 1) s.heap.objs.size c .none → h'.get? s.heap.objs.size = some (itObj (kindD d) a) → h'.objs.size = s.heap.objs.size + 2 →
      (∀ b o, s.heap.get? b = some o → h'.get? b = some o) → Q (.ref (s.heap.objs.size + 1)) { s with heap := h' }) → wpAny (model X.prog X.w) X.A f Q X.xe s) : wpAny (model X.prog X.w) X.A f (fun v s1 => wpAny (model X.prog X.w) X.A (pyIter v) (PIE X pins σ (.Tuple elts kk tpos) R) X.xe s1) X.xe s := by
  split at q
  · rename_i xs h1
    obtain ⟨a, vs, e1, k1, k2⟩ := walked r1 (Ext.refl _ _).toZ sm h1
    subst e1
    cases rv
    obtain ⟨its, rv1, p1, l1, _⟩ := sqK I k1
    refine hcall a its.toArray rfl p1 fun h' he g1 hsz hk => wpAny_pyIter_enum he ?_
    have I2 : Inv X pins σ H { s with heap := h' } := I.kept (t' := s.toks) hk
    refine ⟨s.heap.objs.size + 1, [s.heap.objs.size + 1, s.heap.objs.size], _, _, H, rfl, I2, turn_E (c := c) (k := kindD d) a (s.heap.objs.size + 1) s.heap.objs.size (Nat.succ_ne_self _) (fun e => ?_), ⟨⟨.none, ?_⟩, itObj_is g1⟩, fun b hb => ?_, q.now sm (jok_enum r1)⟩
    · have l1 : a < s.heap.objs.size := l1
      rw [← e] at l1
      exact absurd (Nat.lt_of_succ_lt l1) (Nat.lt_irrefl _)
    · have : c + ((0 : Nat) : Int) = c := by omega
      rw [this]
      exact he
    · have e' : b = s.heap.objs.size + 1 ∨ b = s.heap.objs.size := by simpa using hb
      have hle : s.heap.objs.size ≤ b := by
        rcases e' with z | z
        · rw [z]; exact Nat.le_add_right _ _
        · rw [z]; exact Nat.le_refl _
      exact I.fpOk hle (I.hok.fresh hle)
  · exact q.elim
theorem mi_enum {e : Expr} {ca : EM} {p tpos : Pos} {elts : List Expr} {kk : Nat} (hm : X.mg "enumerate" = none) (hg : Gl X "enumerate") (ha : MEx X E e ca)
    (hs : starEach [e] X.env = (false, eval e X.env) :: starEach [] X.env := by rfl) :
    MI X E RepW (.Tuple elts kk tpos) (.Call (.Name "enumerate" p) [e] [] pos) (mEnum 0 ca) := by
  refine ⟨fun pins s σ H R I h => ?_⟩
  obtain ⟨W, η, m, sm, n, pp⟩ := h
  have h2 : (tCons (rdE X.K X.mg E ca) (rdA X.K X.mg E mNil)) σ H (fun vs H1 => ∃ x W1 m1 d1, vs = [x] ∧ Sim X.K X.mg W1 H1 m1 ∧ Rep X.K W1 H1 d1 x ∧ Post X.K X.mg E (RlI X.K X.mg RepW) W1 H1 R (match rdS1 d1 m1 with
      | some xs => .ok (srcE 0 (rdS1 d1), xs.length) m1
      | none => .stk)) := by
    refine ⟨W, η, m, sm, n, (Post.bind (Rl := Rep X.K) pp).imp fun x H1 ⟨W1, d1, m1, e1, s1, r1, p1⟩ => ?_⟩
    exact ⟨W1, η, m1, s1, n.ext e1, fun b W' H' ex s' r' => by
      rw [Reps.nil' r']
      exact ⟨x, W', m1, d1, rfl, s', r1.ext ex, Post.ext ex p1⟩⟩
  have hA : PA X [e] (tCons (rdE X.K X.mg E ca) (rdA X.K X.mg E mNil)) := pa_cons ha ma_nil hs
  refine Call_ (ld_blt I hg hm PyProof.Rows.boot_enumerate (PyProof.Rows.callWith_type1 (thn (hA.run pos pins s σ H _ I h2) fun us s1 ⟨vs, H1, I1, rv, q1⟩ => ?_) hs rfl))
  obtain ⟨x, W1, m1, d1, rfl, sm1, r1, q⟩ := q1
  cases rv with
  | cons r rr =>
  cases rr
  exact enum_fin I1 r sm1 r1 q fun a its e p1 {Q} h => by subst e; exact enum_begins1 (beginsK (kindD d1) a its) p1 h
end
end Mir

/-! Mir: pop(i), index in lists, sorted texts, isinstance of tuples of classes, repeated lists and tuples, xs[i] op= e. -/
namespace Mir
open PySem PySem.Spec PyProof.Rows L2

/-! ### pop(i) -/
def gPopAt (d : D) (ds : List D) (m : Mem) : R D := match d, ds with
  | .ref i, [.int k] => match lstC m[i]? with
    | some zs => match ixN zs.length k with
      | some j => match zs[j]? with
        | some y => .ok y (m.set i (.lst (zs.eraseIdx j)))
        | none => .stk
      | none => .stk
    | none => .stk
  | _, _ => .stk
theorem Reps.eraseIdx {K : PySem.W.Frag} {W : Wd} {H : Hp} : ∀ {ds : List D} {vs : List V} (n : Nat), Reps K W H ds vs → Reps K W H (ds.eraseIdx n) (vs.eraseIdx n)
  | [], vs, n, h => by rw [h.nil']; simpa using reps_nil
  | x :: ds, vs, 0, h => by
    obtain ⟨u, r, rfl, h2, h3⟩ := h.cons'
    exact h3
  | x :: ds, vs, n + 1, h => by
    obtain ⟨u, r, rfl, h2, h3⟩ := h.cons'
    exact reps_cons h2 (Reps.eraseIdx n h3)
section
variable {X : Cx} {E : XK}
theorem mm_popAt : MtR X "list.pop" (rMM X.K X.mg E gPopAt) := by
  rintro pins s σ H x xs v us Q I rx rxs ⟨W, m, d, ds, sm, rd, rds, p⟩
  unfold gPopAt at p
  split at p
  · rename_i i k
    obtain ⟨a, rfl, e2⟩ := rd.ref'
    obtain ⟨w, wr, rfl, r1, r2⟩ := rds.cons'
    rw [r2.nil', r1.int'] at rxs
    split at p
    · rename_i zs hl
      split at p
      · rename_i j hj
        split at p
        · rename_i y hy
          obtain ⟨vs, q1, q2⟩ := sm.cell i a _ e2 (cell_of hl)
          obtain ⟨w, k1, k2⟩ := q2.get hy
          have ex : Ext W H W (upd H a (.lst (vs.eraseIdx j))) := Ext.mut (List.mem_of_getElem? e2) q1 rfl
          obtain ⟨h1, h2, h3, h4⟩ := ixN_seq hj
          have hz : vs.length ≤ sizeLine := by
            obtain ⟨_, _, _, _, z⟩ := I.lst q1
            exact z
          have hln := line63
          rw [← q2.length] at h1 h3 h4
          exact mt_popAt pins s σ H _ _ v us Q I rx rxs ⟨a, vs, k, j, w, rfl, rfl, q1, by omega, by omega, h1, k1, p w W _ ex (sm.mut e2 ⟨_, upd_same, (Reps.eraseIdx j q2).ext ex⟩) (k2.ext ex)⟩
        · exact p.elim
      · exact p.elim
    · exact p.elim
  · exact p.elim

/-! ### index in a list -/
def ixFlat (d : D) (ds : List D) : Option Nat := match flatD d, mapO flatD ds with
  | some x, some xs => xs.findIdx? fun z => eqV z x
  | _, _ => none
def ixDeep (m : Mem) (d : D) (ds : List D) : Option Nat := match toP m 60 d, mapO (toP m 59) ds with
  | some p, some ps => ps.findIdx? fun z => PyData.eqv z p
  | _, _ => none
def gIndexL (d : D) (ds : List D) (m : Mem) : R D := match ds with
  | [y] => match lstOf m d with
    | some zs => match ixFlat y zs with
      | some j => .ok (.int (j : Nat)) m
      | none => match ixDeep m y zs with
        | some j => .ok (.int (j : Nat)) m
        | none => .stk
    | none => .stk
  | _ => .stk
theorem find_ok {α : Type} {p : α → Bool} : ∀ {l : List α} {j : Nat}, l.findIdx? p = some j → ∃ z, l[j]? = some z ∧ p z = true ∧ ∀ m z', m < j → l[m]? = some z' → p z' = false := by
  intro l j h
  rw [List.findIdx?_eq_some_iff_getElem] at h
  obtain ⟨h1, h2, h3⟩ := h
  refine ⟨l[j], List.getElem?_eq_getElem h1, h2, fun m z' hm hz => ?_⟩
  have := h3 m hm
  rw [List.getElem?_eq_getElem (by omega)] at hz
  cases hz
  simpa using this
theorem mm_indexL (hu : X.A.units + 65 < cLine) : MtR X "list.index" (rMM X.K X.mg E gIndexL) := by
  rintro pins s σ H x xs v us Q I rx rxs ⟨W, m, d, ds, sm, rd, rds, p⟩
  unfold gIndexL at p
  split at p
  · rename_i y
    obtain ⟨w, wr, rfl, r1, r2⟩ := rds.cons'
    rw [r2.nil'] at rxs
    split at p
    · rename_i zs hl
      obtain ⟨a, vs, rfl, q1, q2⟩ := sm.lst rd hl
      split at p
      · rename_i j hj
        unfold ixFlat at hj
        split at hj
        · rename_i x' xs' h1 h2
          obtain ⟨e1, e2⟩ := flat_rep r1 h1
          obtain ⟨e3, e4⟩ := flats_rep q2 h2
          subst e1 e3
          obtain ⟨z, k1, k2, k3⟩ := find_ok hj
          exact mt_index pins s σ H _ _ v us Q I rx rxs ⟨a, _, _, j, z, rfl, rfl, q1, e2, e4, k1, k2, k3, p.now sm rep_int⟩
        · cases hj
      · split at p
        · rename_i j hj
          unfold ixDeep at hj
          split at hj
          · rename_i pd ps h1 h2
            obtain ⟨o1, o2, o3⟩ := toP_ok sm 60 _ _ _ r1 h1
            obtain ⟨b1, b2, b3⟩ := toP_all (fun d v p => toP_ok sm 59 d v p) zs vs ps q2 h2
            have s1 : SeqAt.shaped pd = true := by
              unfold SeqAt.shaped
              rw [o2, decide_eq_true (Nat.le_trans o3 (by decide))]
              rfl
            have s2 : SeqAt.shaped (.list ps) = true := by
              unfold SeqAt.shaped
              have e1 : (PyData.list ps).canLay0 = true := b2
              have e2 : (PyData.list ps).depth ≤ 64 := by
                show PyData.depthAll ps + 1 ≤ 64
                omega
              rw [e1, decide_eq_true e2]
              rfl
            obtain ⟨z, k1, k2, k3⟩ := find_ok hj
            exact mt_indexD hu pins s σ H _ _ v us Q I rx rxs ⟨a, _, pd, ps, j, z, rfl, rfl, .lst q1 b1, o1, s2, s1, k1, k2, k3, p.now sm rep_int⟩
          · cases hj
        · exact p.elim
    · exact p.elim
  · exact p.elim
end
/-! ### sorted texts -/
def insS (x : Str) : List Str → List Str
  | [] => [x]
  | y :: r => if y.cps.toList < x.cps.toList then y :: insS x r else x :: y :: r
def sortS : List Str → List Str
  | [] => []
  | x :: r => insS x (sortS r)
def leS (a b : Str) : Prop := ¬ b.cps.toList < a.cps.toList
theorem leS_antisymm {a b : Str} (h1 : leS a b) (h2 : leS b a) : a = b := by
  have h : a.cps.toList = b.cps.toList := List.le_antisymm h1 h2
  cases a with
  | mk a => cases b with
    | mk b => congr; exact Array.toList_inj.mp h
theorem insS_perm (x : Str) : ∀ l : List Str, (insS x l).Perm (x :: l)
  | [] => .refl _
  | y :: r => by
    unfold insS
    split
    · exact ((insS_perm x r).cons y).trans (.swap x y r)
    · exact .refl _
theorem sortS_perm : ∀ l : List Str, (sortS l).Perm l
  | [] => .refl _
  | x :: r => (insS_perm x _).trans ((sortS_perm r).cons x)
theorem insS_sorted (x : Str) : ∀ l : List Str, l.Pairwise leS → (insS x l).Pairwise leS
  | [], _ => by unfold insS; exact List.pairwise_singleton _ _
  | y :: r, h => by
    unfold insS
    have h1 := List.pairwise_cons.mp h
    split
    · rename_i hlt
      refine List.pairwise_cons.mpr ⟨fun z hz => ?_, insS_sorted x r h1.2⟩
      rcases List.mem_cons.mp ((insS_perm x r).mem_iff.mp hz) with rfl | hz
      · exact fun q => List.lt_irrefl _ (List.lt_trans q hlt)
      · exact h1.1 z hz
    · rename_i hlt
      refine List.pairwise_cons.mpr ⟨fun z hz => ?_, h⟩
      rcases List.mem_cons.mp hz with rfl | hz
      · exact hlt
      · exact List.le_trans (show x.cps.toList ≤ y.cps.toList from hlt) (h1.1 z hz)
theorem sortS_sorted : ∀ l : List Str, (sortS l).Pairwise leS
  | [] => .nil
  | x :: r => insS_sorted x _ (sortS_sorted r)
theorem rising_pw : ∀ (p : Str) (l : List Str), risingS p l = true → (p :: l).Pairwise leS
  | p, [], _ => List.pairwise_singleton _ _
  | p, x :: r, h => by
    unfold risingS at h
    rw [Bool.and_eq_true] at h
    have ih := rising_pw x r h.2
    have hx : leS p x := by
      have := h.1
      rw [ltCps_eq] at this
      simpa [leS] using this
    refine List.pairwise_cons.mpr ⟨fun z hz => ?_, ih⟩
    rcases List.mem_cons.mp hz with rfl | hz
    · exact hx
    · exact List.le_trans (show p.cps.toList ≤ x.cps.toList from hx) ((List.pairwise_cons.mp ih).1 z hz)
theorem sorted_uniq {ys xs : List Str} (hp : ys.Perm xs) (hs : sortedS ys = true) : ys = sortS xs := by
  refine List.Perm.eq_of_pairwise (le := leS) (fun a b _ _ h1 h2 => leS_antisymm h1 h2) ?_ (sortS_sorted xs) (hp.trans (sortS_perm xs).symm)
  cases ys with
  | nil => exact .nil
  | cons y r => exact rising_pw y r hs
def bSortedS (al : Bool) (ds : List D) (m : Mem) : R D := match ds with
  | [d] => match (lstOf m d).bind (mapO strOf) with
    | some xs => if xs.length < 64 then mkL al ((sortS xs).map .str) m else .stk
    | none => .stk
  | _ => .stk
section
variable {X : Cx} {E : XK}
theorem cm_sortedS (al : Bool) : CallR X (.builtin "sorted") (rCM X.K X.mg E (bSortedS al)) := by
  rintro pins s σ H xs us Q I r ⟨W, m, ds, sm, rs, p⟩
  unfold bSortedS at p
  split at p
  · rename_i d
    obtain ⟨w, wr, rfl, r1, r2⟩ := rs.cons'
    have e := r2.nil'
    subst e
    split at p
    · rename_i ys hy
      cases hl : lstOf m d with
      | none => rw [hl] at hy; cases hy
      | some zs =>
        rw [hl] at hy
        obtain ⟨a, vs, rfl, q1, q2⟩ := sm.lst r1 hl
        have ev := strs_rep q2 hy
        subst ev
        split at p
        · rename_i h64
          refine cr_sortedS pins s σ H _ us Q I r ⟨a, ys, rfl, q1, h64, fun zs pp hp hs hn => ?_⟩
          rw [sorted_uniq hp hs]
          exact sm.newL hn (reps_strs _) p
        · exact p.elim
    · exact p.elim
  · exact p.elim

/-! ### isinstance of a tuple of built-in classes -/
def kitsB (t : String) : List String → Option Bool
  | [] => some false
  | T :: r => match kitB t T with
    | some true => some true
    | some false => kitsB t r
    | none => none
theorem kits_any {K : PySem.W.Frag} {t : String} : ∀ {Ts : List String} {b : Bool}, kitsB t Ts = some b → PySem.W.kitAny K (.type t) (Ts.map Value.type) = some b
  | [], b, h => by cases h; exact kitAny_nil
  | T :: r, b, h => by
    unfold kitsB at h
    cases hk : kitB t T with
    | none => rw [hk] at h; cases h
    | some k =>
      rw [hk] at h
      cases k with
      | true => cases h; exact kitAny_cons (kit_ty hk) (fun q => by cases q) (fun _ => rfl)
      | false => exact kitAny_cons (kit_ty hk) (fun _ => kits_any h) (fun q => by cases q)
def mIsiT (Ts : List String) (c : EM) : EM := fun η m => (c η m).bind fun d m1 => match (tyNm m1 d).bind fun t => kitsB t Ts with
  | some b => .ok (.bl b) m1
  | none => .stk
theorem me_isiT2 (T1 T2 : String) {e : Expr} {c : EM} {p p2 p3 pt pos : Pos} {kt : Nat} {t1 t2 : Str} (hm : X.mg "isinstance" = none) (hm1 : X.mg t1 = none) (hm2 : X.mg t2 = none) (hg : Gl X "isinstance") (hg1 : Gl X t1) (hg2 : Gl X t2) (hv1 : bootBuiltins t1 = some (.type T1)) (hv2 : bootBuiltins t2 = some (.type T2)) (he : MEx X E e c)
    (hn1 : t1 ≠ "__name__" := by decide) (hd1 : (t1 == ("__debug__" : Str)) = false := by decide) (hn2 : t2 ≠ "__name__" := by decide) (hd2 : (t2 == ("__debug__" : Str)) = false := by decide)
    (ht1 : starEach [.Name t1 p2, .Name t2 p3] X.env = (false, eval (.Name t1 p2) X.env) :: starEach [.Name t2 p3] X.env := by rfl) (ht2 : starEach [.Name t2 p3] X.env = (false, eval (.Name t2 p3) X.env) :: starEach [] X.env := by rfl)
    (hs1 : starEach [e, .Tuple [.Name t1 p2, .Name t2 p3] kt pt] X.env = (false, eval e X.env) :: starEach [.Tuple [.Name t1 p2, .Name t2 p3] kt pt] X.env := by rfl) (hs2 : starEach [.Tuple [.Name t1 p2, .Name t2 p3] kt pt] X.env = (false, eval (.Tuple [.Name t1 p2, .Name t2 p3] kt pt) X.env) :: starEach [] X.env := by rfl)
    (hpl : (backTo pos (starEach [.Tuple [.Name t1 p2, .Name t2 p3] kt pt] X.env)).any (·.1) = false := by rfl) : MEx X E (.Call (.Name "isinstance" p) [e, .Tuple [.Name t1 p2, .Name t2 p3] kt pt] [] pos) (mIsiT [T1, T2] c) := by
  refine (pe_callB call_isiT hg hm boot_isinstance (pa_cons he (pa_cons (pe_tup (pa_cons (pe_bltn (v := .ty T1) hg1 hm1 hv1 rfl hn1 hd1) (pa_cons (pe_bltn (v := .ty T2) hg2 hm2 hv2 rfl hn2 hd2) pa_nil ht2) ht1)) pa_nil hs2) hs1) (by decide) (by decide) hs1 hpl).imp fun σ H Q ⟨W, η, m, s, n, p⟩ => ?_
  refine ⟨W, η, m, s, n, (Post.bind (Rl := Rep X.K) p).imp fun x H1 ⟨W1, d, m1, e1, s1, r1, p1⟩ => ?_⟩
  refine ⟨show 2 ≤ sizeLine by decide, fun tp hp => ?_⟩
  have ex : Ext W1 H1 W1 (upd H1 tp (.tup [.ty T1, .ty T2])) := Ext.fresh hp
  have sx := s1.fresh (o := .tup [.ty T1, .ty T2]) hp
  cases h : tyNm m1 d with
  | none => rw [h] at p1; exact p1.elim
  | some t =>
    rw [h] at p1
    cases hk : kitsB t [T1, T2] with
    | none => simp only [Option.bind_some, hk] at p1; exact p1.elim
    | some b =>
      simp only [Option.bind_some, hk] at p1
      exact ⟨x, tp, [.ty T1, .ty T2], .type t, [.type T1, .type T2], b, rfl, upd_same, .cons (.ty T1) (.cons (.ty T2) .nil), tyNm_ok sx (r1.ext ex) h, kits_any hk, (Post.ext ex p1).now sx rep_bl⟩
end

/-! ### repeated lists and tuples -/
def gRepL (al : Bool) (d e : D) (m : Mem) : R D := match lstOwn m d, e with
  | some ds, .int k => if rngB k = true ∧ ds.length * k.toNat ≤ sizeLine then mkL al (List.replicate k.toNat ds).flatten m else .stk
  | _, _ => .stk
theorem Reps.rep {K : PySem.W.Frag} {W : Wd} {H : Hp} {ds : List D} {vs : List V} (h : Reps K W H ds vs) : ∀ n : Nat, Reps K W H (List.replicate n ds).flatten (List.replicate n vs).flatten
  | 0 => reps_nil
  | n + 1 => by
    rw [List.replicate_succ, List.replicate_succ, List.flatten_cons, List.flatten_cons]
    exact h.append (Reps.rep h n)
section
variable {X : Cx} {E : XK} {pos : Pos}
theorem om_repL (al : Bool) : OpM X E (binaryOp .Mult) (gRepL al) := by
  rintro pins s σ H x y v u Q I rx ry ⟨W, m, d, e, sm, rd, re, p⟩
  unfold gRepL at p
  split at p
  · rename_i ds k hl
    obtain ⟨a, vs, rfl, q1, q2⟩ := sm.own rd hl
    rw [re.int'] at ry
    split at p
    · rename_i hk
      have hr := (rngB_iff k).mp hk.1
      exact op_rep pins s σ H _ _ v u Q I rx ry ⟨a, k, vs, rfl, rfl, q1, by omega, by omega, by rw [q2.length]; exact hk.2, fun pp hp => sm.newL hp (q2.rep _) p⟩
    · exact p.elim
  · exact p.elim

/-! ### xs[i] op= e -/
end
end Mir

/-! Mir: tuples repeated. -/
namespace Mir
open PySem PySem.Spec PyProof.Rows L2
section
variable {X : Cx} {E : XK}
@[irreducible] def repB (k : Int) : Bool := decide (-1000 ≤ k ∧ k ≤ 1000)
theorem repB_iff (k : Int) : repB k = true ↔ (-1000 ≤ k ∧ k ≤ 1000) := by unfold repB; exact decide_eq_true_iff
def gRepT (d e : D) (m : Mem) : R D := match d, e with
  | .tup ds, .int k => if repB k = true ∧ ds.length ≤ 1000 then .ok (.tup (List.replicate k.toNat ds).flatten) m else .stk
  | _, _ => .stk
end

/-! ### nothing is known of a body -/
def mStk : SM := fun _ _ => .stk
theorem mss_stk {X : Cx} {E : XK} {b : List Stmt} : MSs X E b mStk := ⟨fun pins s σ H Dn I ⟨W, η, m, _, _, h⟩ => h.elim⟩

/-! ### one of several defs is called -/
section
variable {X : Cx} {E : XK} {k : Nat}
end
end Mir

/-! Mir: list(zip(a, b)). -/
namespace Mir
open PySem PySem.Spec PyProof.Rows L2
abbrev ZipN (h : Heap) (z TI TO T : Addr) (b : Bool) : Prop :=
  h.get? z = some { cls := .type "zip", dict := none, data := .fields #[rawInt T, .bool b, .bool false, .ref TI, .ref TO], slots := #[] }
section
variable {prog : Program} {w : World} {A : Around} {E : Value → Shared → Prop} {s : Shared} {z TI TO T i1 i2 : Addr} {fp1 fp2 : List Addr} {n1 n2 i : Nat} {P1 P2 : Nat → Value → Prop} {St1 St2 : Nat → Heap → Prop} {a1 a2 : Value} {b : Bool}
end

/-! ### a zip that list() draws dry -/
structure ZS (z TI TO i1 i2 N : Addr) (St1 St2 : Nat → Heap → Prop) (i : Nat) (h : Heap) : Prop where
  tI : IsTupOf2 h TI (.ref i1) (.ref i2)
  s1 : St1 i h
  s2 : St2 i h
  zz : (IsZip h z TI TO .none ∧ ∃ x y, IsTupOf2 h TO x y) ∨ ∃ (b : Bool) (T : Addr), ZipN h z TI TO T b ∧ T ≠ N ∧ ∃ o, h.get? T = some o
section
variable {prog : Program} {w : World} {A : Around} {E : Value → Shared → Prop} {s : Shared} {z TI TO i1 i2 N : Addr} {fp1 fp2 : List Addr} {n1 n2 i : Nat} {P1 P2 : Nat → Value → Prop} {St1 St2 : Nat → Heap → Prop} {R : Result → Shared → Prop}
theorem ZS.type (x : ZS z TI TO i1 i2 N St1 St2 i s.heap) : s.TypeIs (.ref z) "zip" := by
  rcases x.zz with ⟨h, _⟩ | ⟨b, T, h, _⟩
  · exact ⟨_, h, rfl⟩
  · exact ⟨_, h, rfl⟩
theorem ZS.keep {h h' : Heap} (D1 : Draws prog w A i1 fp1 n1 P1 St1) (D2 : Draws prog w A i2 fp2 n2 P2 St2) (x : ZS z TI TO i1 i2 N St1 St2 i h) (hz : z ≠ N) (hI : TI ≠ N) (hO : TO ≠ N) (h1 : N ∉ fp1) (h2 : N ∉ fp2)
    (k : ∀ b o, b ≠ N → h.get? b = some o → h'.get? b = some o) : ZS z TI TO i1 i2 N St1 St2 i h' := by
  refine ⟨k _ _ hI x.tI, D1.frame _ _ _ x.s1 fun b hb o e => k b o (fun q => h1 (q ▸ hb)) e, D2.frame _ _ _ x.s2 fun b hb o e => k b o (fun q => h2 (q ▸ hb)) e, ?_⟩
  rcases x.zz with ⟨q, a, b, q2⟩ | ⟨b, T, q, nT, o, e⟩
  · exact .inl ⟨k _ _ hz q, a, b, k _ _ hO q2⟩
  · exact .inr ⟨b, T, k _ _ hz q, nT, o, k _ _ nT e⟩
end
end Mir

/-! Mir: list(zip(a, b)), the rule. -/
namespace Mir
open PySem PySem.Spec PyProof.Rows L2
def zipW (xs ys : List D) : List D := List.zipWith (fun x y => D.tup [x, y]) xs ys
theorem IsSq.at {h h' : Heap} {k : SK} {a : Addr} {its : Array Value} (x : IsSq h k a its) (hk : ∀ c o, h.get? c = some o → h'.get? c = some o) : IsSq h' k a its := by
  cases k with
  | l => obtain ⟨o, e, r⟩ := x; exact ⟨o, hk _ _ e, r⟩
  | t => obtain ⟨o, e, r⟩ := x; exact ⟨o, hk _ _ e, r⟩
def mListZip (al : Bool) (a b : EM) : EM := fun η m => (a η m).bind fun x m1 => (b η m1).bind fun y m2 => match rdS1 x m2, rdS1 y m2 with
  | some xs, some ys => mkL al (zipW xs ys) m2
  | _, _ => .stk
section
variable {X : Cx} {E : XK} {pos : Pos}
def rgD (a b : Int) : List D := (List.range (b - a).toNat).map fun i => D.int (a + (i : Nat))
theorem reps_rg {K : PySem.W.Frag} {W : Wd} {H : Hp} (a : Int) : ∀ l : List Nat, Reps K W H (l.map fun i => D.int (a + (i : Nat))) (l.map fun i => V.int (a + (i : Nat)))
  | [] => reps_nil
  | i :: r => reps_cons (by show Rep K W H (.int _) _; unfold Rep; rfl) (reps_rg a r)
instance (a b : Int) : Decidable (RgOk a b) := by unfold RgOk; infer_instance
@[irreducible] def rgB (a b : Int) : Bool := decide (RgOk a b)
theorem rgB_ok {a b : Int} (h : rgB a b = true) : RgOk a b := by unfold rgB at h; exact of_decide_eq_true h
theorem rgB_of {a b : Int} (h : RgOk a b) : rgB a b = true := by unfold rgB; exact decide_eq_true h
def lsRg (al : Bool) (a b : Int) (m : Mem) : R D := if rgB a b = true then mkL al (rgD a b) m else .stk
def mListRg2 (al : Bool) (a b : EM) : EM := fun η m => (a η m).bind fun x m1 => (b η m1).bind fun y m2 => match x, y with
  | .int i, .int j => lsRg al i j m2
  | _, _ => .stk
theorem lsRg_post {al : Bool} {a b : Int} {W : Wd} {H : Hp} {m : Mem} {Q : VK} (s : Sim X.K X.mg W H m) (h : Post X.K X.mg E (Rep X.K) W H Q (lsRg al a b m)) : RgOk a b ∧ ∀ q, H q = none → Q (.ref q) (upd H q (.lst (rgV a b))) := by
  unfold lsRg at h
  split at h
  · rename_i g
    exact ⟨rgB_ok g, fun q hq => s.newL hq (reps_rg a _) h⟩
  · exact h.elim
theorem me_listRg2 {al : Bool} {e e2 : Expr} {ca cb : EM} {p p2 pos2 : Pos} (hc : X.calm = true) (hml : X.mg "list" = none) (hgl : Gl X "list") (hm : X.mg "range" = none) (hg : Gl X "range") (ha : MEx X E e ca) (hb : MEx X E e2 cb)
    (na : starEach [e, e2] X.env = (false, eval e X.env) :: starEach [e2] X.env := by rfl) (nb : starEach [e2] X.env = (false, eval e2 X.env) :: starEach [] X.env := by rfl) (hpl : (backTo pos2 (starEach [e2] X.env)).any (·.1) = false := by rfl)
    (he : starEach [Expr.Call (.Name "range" p2) [e, e2] [] pos2] X.env = (false, eval (.Call (.Name "range" p2) [e, e2] [] pos2) X.env) :: starEach [] X.env := by rfl) :
    MEx X E (.Call (.Name "list" p) [.Call (.Name "range" p2) [e, e2] [] pos2] [] pos) (mListRg2 al ca cb) :=
  (pe_listRg hc hgl hml (prg_2 hg hm ha hb na nb hpl) he).imp fun σ H Q ⟨W, η, m, s, n, pp⟩ => by
    refine ⟨W, η, m, s, n, (Post.bind (Rl := Rep X.K) pp).imp fun x H1 ⟨W1, d1, m1, e1, s1, r1, p1⟩ => ?_⟩
    refine ⟨W1, η, m1, s1, n.ext e1, (Post.bind (Rl := Rep X.K) p1).imp fun y H2 ⟨W2, d2, m2, e2, s2, r2, p2⟩ => ?_⟩
    cases d1 with
    | int i =>
      cases d2 with
      | int j => exact ⟨i, j, by have := (r1.ext e2); unfold Rep at this; exact this, by unfold Rep at r2; exact r2, lsRg_post s2 p2⟩
      | _ => exact p2.elim
    | _ => cases d2 <;> exact p2.elim
end
end Mir

/-! Mir: x or y that gives the thing itself. -/
namespace Mir
open PySem PySem.Spec PyProof.Rows L2
end Mir

/-! Mir: reasoning over mirrors. -/
namespace Mir
open PySem PySem.Spec PyProof.Rows L2

@[simp] theorem gEq_bl (neg : Bool) (a b : Bool) (m : Mem) : gEq neg (.bl a) (.bl b) m = .ok (.bl (decide (a = b) ^^ neg)) m := by
  simp [gEq, flatD, scal]
@[simp] theorem gEq_str (neg : Bool) (a b : Str) (m : Mem) : gEq neg (.str a) (.str b) m = .ok (.bl (decide (a = b) ^^ neg)) m := by
  simp [gEq, flatD, scal]
@[simp] theorem gIx_lst0 (d : D) (l : List D) (m : Mem) : gIx (.lst (d :: l)) (.int 0) m = .ok d m := by
  simp [gIx, ixOf, lstOf, atI, ixN, oR]
@[simp] theorem gIx_tup0 (d : D) (l : List D) (m : Mem) : gIx (.tup (d :: l)) (.int 0) m = .ok d m := by
  simp [gIx, ixOf, atI, ixN, oR]
/-! ### what comes of a mirror -/
def Tri {α : Type} (r : R α) (P : α → Mem → Prop) : Prop := match r with
  | .ok a m => P a m
  | _ => False
@[simp] theorem tri_ok {α : Type} (a : α) (m : Mem) (P : α → Mem → Prop) : Tri (.ok a m) P = P a m := nr rfl
@[simp] theorem tri_stk {α : Type} (P : α → Mem → Prop) : Tri (.stk : R α) P = False := nr rfl
@[simp] theorem tri_exc {α : Type} (x : Exn) (m : Mem) (P : α → Mem → Prop) : Tri (.exc x m : R α) P = False := nr rfl
@[simp] theorem tri_bind {α β : Type} (r : R α) (f : α → Mem → R β) (P : β → Mem → Prop) : Tri (r.bind f) P = Tri r (fun a m => Tri (f a m) P) := by cases r <;> rfl
theorem Tri.mono {α : Type} {r : R α} {P Q : α → Mem → Prop} (h : Tri r P) (k : ∀ a m, P a m → Q a m) : Tri r Q := by
  cases r with
  | ok a m => exact k a m h
  | _ => exact h
theorem Tri.ex {α : Type} {r : R α} {P : α → Mem → Prop} (h : Tri r P) : ∃ a m, r = .ok a m ∧ P a m := by
  cases r with
  | ok a m => exact ⟨a, m, rfl, h⟩
  | _ => exact h.elim
@[simp] theorem tri_noX {α : Type} (r : R α) (P : α → Mem → Prop) : Tri (noX r) P = Tri r P := by cases r <;> rfl
@[simp] theorem tri_ite {α : Type} {c : Prop} [Decidable c] (a b : R α) (P : α → Mem → Prop) : Tri (if c then a else b) P = if c then Tri a P else Tri b P := by split <;> rfl
theorem tri_eq {α : Type} {r : R α} {a : α} {m : Mem} {P : α → Mem → Prop} (h : r = .ok a m) : Tri r P = P a m := by rw [h]; rfl
/-- of a statement: what follows, what is returned -/
def TriS (r : RS) (N : Env' → Mem → Prop) (Rt : D → Mem → Prop) : Prop := match r with
  | .nxt η m => N η m
  | .ret d m => Rt d m
  | _ => False
@[simp] theorem tris_nxt (η : Env') (m : Mem) (N : Env' → Mem → Prop) (Rt : D → Mem → Prop) : TriS (.nxt η m) N Rt = N η m := nr rfl
@[simp] theorem tris_ret (d : D) (m : Mem) (N : Env' → Mem → Prop) (Rt : D → Mem → Prop) : TriS (.ret d m) N Rt = Rt d m := nr rfl
@[simp] theorem tris_stk (N : Env' → Mem → Prop) (Rt : D → Mem → Prop) : TriS .stk N Rt = False := nr rfl
@[simp] theorem tris_exc (x : Exn) (m : Mem) (N : Env' → Mem → Prop) (Rt : D → Mem → Prop) : TriS (.exc x m) N Rt = False := nr rfl
@[simp] theorem tris_brk (η : Env') (m : Mem) (N : Env' → Mem → Prop) (Rt : D → Mem → Prop) : TriS (.brk η m) N Rt = False := nr rfl
@[simp] theorem tris_cnt (η : Env') (m : Mem) (N : Env' → Mem → Prop) (Rt : D → Mem → Prop) : TriS (.cnt η m) N Rt = False := nr rfl
@[simp] theorem tris_seq (r : RS) (f : SM) (N : Env' → Mem → Prop) (Rt : D → Mem → Prop) : TriS (r.seq f) N Rt = TriS r (fun η m => TriS (f η m) N Rt) Rt := by cases r <;> rfl
@[simp] theorem tris_toS {α : Type} (r : R α) (f : α → Mem → RS) (N : Env' → Mem → Prop) (Rt : D → Mem → Prop) : TriS (r.toS f) N Rt = Tri r (fun a m => TriS (f a m) N Rt) := by cases r <;> rfl
@[simp] theorem tris_ite {c : Prop} [Decidable c] (a b : RS) (N : Env' → Mem → Prop) (Rt : D → Mem → Prop) : TriS (if c then a else b) N Rt = if c then TriS a N Rt else TriS b N Rt := by split <;> rfl
theorem TriS.mono {r : RS} {N N' : Env' → Mem → Prop} {Rt Rt' : D → Mem → Prop} (h : TriS r N Rt) (k : ∀ η m, N η m → N' η m) (k' : ∀ d m, Rt d m → Rt' d m) : TriS r N' Rt' := by
  cases r with
  | nxt η m => exact k η m h
  | ret d m => exact k' d m h
  | _ => exact h
/-- of a loop's body: what follows, break, continue, what is returned -/
def TriQ (r : RS) (N B C : Env' → Mem → Prop) (Rt : D → Mem → Prop) : Prop := match r with
  | .nxt η m => N η m
  | .brk η m => B η m
  | .cnt η m => C η m
  | .ret d m => Rt d m
  | _ => False
section
variable (η : Env') (m : Mem) (N B C : Env' → Mem → Prop) (Rt : D → Mem → Prop)
@[simp] theorem triq_nxt : TriQ (.nxt η m) N B C Rt = N η m := nr rfl
@[simp] theorem triq_brk : TriQ (.brk η m) N B C Rt = B η m := nr rfl
@[simp] theorem triq_cnt : TriQ (.cnt η m) N B C Rt = C η m := nr rfl
@[simp] theorem triq_ret (d : D) : TriQ (.ret d m) N B C Rt = Rt d m := nr rfl
@[simp] theorem triq_stk : TriQ .stk N B C Rt = False := nr rfl
@[simp] theorem triq_exc (x : Exn) : TriQ (.exc x m) N B C Rt = False := nr rfl
@[simp] theorem triq_seq (r : RS) (f : SM) : TriQ (r.seq f) N B C Rt = TriQ r (fun η m => TriQ (f η m) N B C Rt) B C Rt := by cases r <;> rfl
@[simp] theorem triq_toS {α : Type} (r : R α) (f : α → Mem → RS) : TriQ (r.toS f) N B C Rt = Tri r (fun a m => TriQ (f a m) N B C Rt) := by cases r <;> rfl
@[simp] theorem triq_ite {c : Prop} [Decidable c] (a b : RS) : TriQ (if c then a else b) N B C Rt = if c then TriQ a N B C Rt else TriQ b N B C Rt := by split <;> rfl
end
theorem TriS.toQ {r : RS} {N B C : Env' → Mem → Prop} {Rt : D → Mem → Prop} (h : TriS r N Rt) : TriQ r N B C Rt := by
  cases r <;> first | exact h | exact h.elim
theorem TriQ.mono {r : RS} {N N' B B' C C' : Env' → Mem → Prop} {Rt Rt' : D → Mem → Prop} (h : TriQ r N B C Rt) (k : ∀ η m, N η m → N' η m) (k2 : ∀ η m, B η m → B' η m) (k3 : ∀ η m, C η m → C' η m) (k' : ∀ d m, Rt d m → Rt' d m) : TriQ r N' B' C' Rt' := by
  cases r with
  | nxt η m => exact k η m h
  | brk η m => exact k2 η m h
  | cnt η m => exact k3 η m h
  | ret d m => exact k' d m h
  | _ => exact h
theorem tri_fn {n N : Nat} {body : SM} {ds : List D} {m : Mem} {P : D → Mem → Prop} (hl : ds.length = n) (h : TriS (body (ds.map some ++ List.replicate (N - n) none) m) (fun _ m => P .non m) P) : Tri (mFn n N body ds m) P := by
  unfold mFn
  rw [if_pos hl, hl]
  revert h
  generalize body (ds.map some ++ List.replicate (N - n) none) m = r
  intro h
  cases r <;> exact h

/-! ### the combinators, applied -/
section
variable (η : Env') (m : Mem) (a b c : EM) (g h : D → D → Mem → R D) (t u : TM) (al : Bool) (as bs : AM) (d : D) (s1 s2 : SM)
def varR (m : Mem) : Option (Option D) → R D
  | some (some d) => .ok d m
  | _ => .stk
@[simp] theorem ap_mVar (i : Nat) : mVar i η m = varR m η[i]? := by
  unfold mVar varR
  cases η[i]? with
  | none => rfl
  | some o => cases o <;> rfl
@[simp] theorem varR_ok : varR m (some (some d)) = .ok d m := nr rfl
@[simp] theorem ap_c : mC d η m = .ok d m := nr rfl
@[simp] theorem ap_op : mOp g a b η m = (a η m).bind fun x m1 => (b η m1).bind fun y m2 => g x y m2 := nr rfl
@[simp] theorem ap_un (g : D → Mem → R D) : mUn g a η m = (a η m).bind fun x m1 => g x m1 := nr rfl
@[simp] theorem ap_test : mTest a η m = (a η m).bind toB := nr rfl
@[simp] theorem toB_bl (k : Bool) : toB (.bl k) m = .ok k m := nr rfl
@[simp] theorem ap_and : mAnd t u η m = (t η m).bind fun x m1 => if x = true then u η m1 else .ok false m1 := nr rfl
@[simp] theorem ap_or : mOr t u η m = (t η m).bind fun x m1 => if x = true then .ok true m1 else u η m1 := nr rfl
@[simp] theorem ap_not : mNot t η m = (t η m).bind fun x m1 => .ok (!x) m1 := nr rfl
@[simp] theorem ap_andV : mAndV a b η m = (a η m).bind fun x m1 => (toB x m1).bind fun k m2 => if k = true then b η m2 else .ok (.bl false) m2 := nr rfl
@[simp] theorem ap_if : mIf t a b η m = (t η m).bind fun k m1 => if k = true then a η m1 else b η m1 := nr rfl
@[simp] theorem ap_chain : mChain g h a b c η m = (a η m).bind fun x m1 => (b η m1).bind fun y m2 => (g x y m2).bind fun z m3 => (toB z m3).bind fun k m4 =>
  if k = true then (c η m4).bind fun w m5 => h y w m5 else .ok (.bl false) m4 := rfl
@[simp] theorem ap_nil : mNil η m = .ok [] m := nr rfl
@[simp] theorem ap_cons : mCons a as η m = (a η m).bind fun x m1 => (as η m1).bind fun xs m2 => .ok (x :: xs) m2 := nr rfl
@[simp] theorem ap_tup : mTup as η m = (as η m).bind fun xs m1 => if xs.length ≤ sizeLine then .ok (.tup xs) m1 else .stk := nr rfl
@[simp] theorem ap_lst : mLst al as η m = (as η m).bind fun xs m1 => if xs.length ≤ sizeLine then mkL al xs m1 else .stk := nr rfl
@[simp] theorem ap_cb (g : List D → Mem → R D) : mCB g as η m = (as η m).bind fun xs m1 => g xs m1 := nr rfl
@[simp] theorem ap_noPart : mNoPart η m = .ok none m := nr rfl
def partR : D → Mem → R (Option Int)
  | .int i, m => .ok (some i) m
  | _, _ => .stk
@[simp] theorem partR_int (i : Int) : partR (.int i) m = .ok (some i) m := nr rfl
@[simp] theorem ap_part : mPart a η m = (a η m).bind partR := by
  show (a η m).bind _ = _
  congr
  funext x m1
  cases x <;> rfl
def rng1R : D → Mem → R (Src × Nat)
  | .int j, m => if rngB j = true then .ok (srcLP (rngD 0 j.toNat)) m else .stk
  | _, _ => .stk
@[simp] theorem rng1R_int (j : Int) (h0 : -1000000 ≤ j) (h1 : j ≤ 1000000) : rng1R (.int j) m = .ok (srcLP (rngD 0 j.toNat)) m := by
  show (if rngB j = true then _ else _) = _
  rw [if_pos ((rngB_iff j).mpr (by omega))]
def rng2R : D → D → Mem → R (Src × Nat)
  | .int i, .int j, m => if (rngB i && rngB j) = true then .ok (srcLP (rngD i (j - i).toNat)) m else .stk
  | _, _, _ => .stk
@[simp] theorem rng2R_int (i j : Int) (h0 : -1000000 ≤ i) (h1 : i ≤ 1000000) (h2 : -1000000 ≤ j) (h3 : j ≤ 1000000) : rng2R (.int i) (.int j) m = .ok (srcLP (rngD i (j - i).toNat)) m := by
  show (if (rngB i && rngB j) = true then _ else _) = _
  rw [if_pos (by rw [(rngB_iff i).mpr (by omega), (rngB_iff j).mpr (by omega)]; rfl)]
@[simp] theorem gNeg_int (i : Int) : gNeg (.int i) m = .ok (.int (-i)) m := nr rfl
@[simp] theorem ap_sl (g : D → Option Int → Option Int → Mem → R D) (lo hi : OM) : mSl g a lo hi η m = (a η m).bind fun x m1 => (lo η m1).bind fun l m2 => (hi η m2).bind fun u m3 => g x l u m3 := nr rfl
def optR {α : Type} (m : Mem) : Option α → R α
  | some b => .ok b m
  | none => .stk
@[simp] theorem optR_some {α : Type} (b : α) : optR m (some b) = .ok b m := nr rfl
@[simp] theorem optR_none {α : Type} : optR m (none : Option α) = .stk := nr rfl
@[simp] theorem ap_tru : mTru a η m = (a η m).bind fun x m1 => optR m1 (truD m1 x) := by
  show (a η m).bind _ = _
  congr
  funext x m1
  cases truD m1 x <;> rfl
@[simp] theorem mkL_f (ds : List D) : mkL false ds m = .ok (.lst ds) m := nr rfl
@[simp] theorem mkL_t (ds : List D) : mkL true ds m = .ok (.ref m.length) (m ++ [.lst ds]) := nr rfl
@[simp] theorem ap_skip : mSkip η m = .nxt η m := nr rfl
@[simp] theorem ap_seq : mSeq s1 s2 η m = (s1 η m).seq s2 := nr rfl
@[simp] theorem ap_ret : mRet a η m = (a η m).toS fun d m1 => .ret d m1 := nr rfl
@[simp] theorem ap_drop : mDrop a η m = (a η m).toS fun _ m1 => .nxt η m1 := nr rfl
@[simp] theorem ap_ifS : mIfS t s1 s2 η m = (t η m).toS fun k m1 => if k = true then s1 η m1 else s2 η m1 := nr rfl
@[simp] theorem ap_asg (g : GM) : mAsg a g η m = (a η m).toS fun d m1 => (g d η m1).toS fun η' m2 => .nxt η' m2 := nr rfl
@[simp] theorem ap_gNm (i : Nat) : gNm i d η m = .ok (η.set i (some d)) m := nr rfl
@[simp] theorem ap_gsNil : gsNil [] η m = .ok η m := nr rfl
@[simp] theorem ap_gsCons (g : GM) (r : GsM) (ds : List D) : gsCons g r (d :: ds) η m = (g d η m).bind fun η1 m1 => r ds η1 m1 := nr rfl
@[simp] theorem ap_gTp (n : Nat) (g : GsM) (ds : List D) : gTp n g (.tup ds) η m = if ds.length = n then g ds η m else .stk := nr rfl
@[simp] theorem ap_gSub : gSubT a b d η m = (a η m).bind fun o m1 => (b η m1).bind fun i m2 => (gSet o i d m2).bind fun _ m3 => .ok η m3 := nr rfl
@[simp] theorem ap_call (fm : FM) : mCall fm as η m = (as η m).bind fun xs m1 => noX (fm xs m1) := nr rfl
@[simp] theorem ap_callK (n k : Nat) (ix : List Nat) (dd : List D) (fm : FM) : mCallK n k ix dd fm as bs η m = (as η m).bind fun xs m1 => (bs η m1).bind fun ys m2 => if xs.length = n ∧ ys.length = k then noX (fm (arr ix (xs ++ ys ++ dd)) m2) else .stk := nr rfl
@[simp] theorem ap_bm (T : String) (g : D → List D → Mem → R D) : mBM T g a as η m = (a η m).bind fun x m1 => if isTy T m1 x = true then (as η m1).bind fun xs m2 => g x xs m2 else .stk := nr rfl
@[simp] theorem ap_isi (T : String) : mIsi T a η m = (a η m).bind fun d m1 => optR m1 (((tyNm m1 d).bind fun t => kitB t T).map D.bl) := by
  show (a η m).bind _ = _
  congr
  funext x m1
  cases (tyNm m1 x).bind fun t => kitB t T <;> rfl
@[simp] theorem ap_it : mIt a η m = (a η m).bind fun d m1 => optR m1 (srcOf m1 d) := by
  show (a η m).bind _ = _
  congr
  funext x m1
  cases srcOf m1 x <;> rfl
@[simp] theorem ap_rng1 : mRng1 a η m = (a η m).bind rng1R := by
  show (a η m).bind _ = _
  congr
  funext x m1
  cases x <;> rfl
@[simp] theorem ap_rng2 : mRng2 a b η m = (a η m).bind fun x m1 => (b η m1).bind fun y m2 => rng2R x y m2 := by
  show (a η m).bind _ = _
  congr
  funext x m1
  congr
  funext y m2
  cases x <;> cases y <;> rfl
@[simp] theorem ap_yes : mYes η m = .ok true m := nr rfl
end

/-! ### loops over a list -/
def forD (g : GM) (body : SM) : List D → Env' → Mem → RS
  | [], η, m => .nxt η m
  | d :: ds, η, m => (g d η m).toS fun η1 m1 => match body η1 m1 with
    | .nxt η2 m2 => forD g body ds η2 m2
    | .cnt η2 m2 => forD g body ds η2 m2
    | .brk η2 m2 => .nxt η2 m2
    | r => r
theorem loop_forD (g : GM) (body : SM) (ds : List D) : ∀ (rest pre : List D) (η : Env') (m : Mem), ds = pre ++ rest → mLoop (srcL ds) g body rest.length pre.length η m = forD g body rest η m
  | [], pre, η, m, e => by
    have hd : ds[pre.length]? = none := by rw [e, List.append_nil]; exact List.getElem?_eq_none (Nat.le_refl _)
    show mLoop (srcL ds) g body 0 pre.length η m = _
    unfold mLoop forD
    simp only [srcL, hd]
  | d :: rest, pre, η, m, e => by
    have hd : ds[pre.length]? = some d := by rw [e, List.getElem?_append_right (Nat.le_refl _), Nat.sub_self]; rfl
    have ih := loop_forD g body ds rest (pre ++ [d])
    unfold forD
    rw [List.length_cons]
    unfold mLoop
    simp only [srcL, hd]
    cases g d η m with
    | ok η1 m1 =>
      simp only [toS_ok]
      cases body η1 m1 with
      | nxt η2 m2 =>
        have := ih η2 m2 (by rw [e]; simp)
        rw [List.length_append] at this
        exact this
      | cnt η2 m2 =>
        have := ih η2 m2 (by rw [e]; simp)
        rw [List.length_append] at this
        exact this
      | _ => rfl
    | _ => rfl
theorem ap_loop (g : GM) (body : SM) (ds : List D) (η : Env') (m : Mem) : mLoop (srcL ds) g body ds.length 0 η m = forD g body ds η m := loop_forD g body ds ds [] η m rfl
def compD (g : GM) (t : TM) (e : EM) (η : Env') : List D → Mem → List D → R (List D)
  | [], m, acc => .ok acc m
  | d :: ds, m, acc => (noX (g d η m)).bind fun η1 m1 => (noX (t η1 m1)).bind fun b m2 =>
      if b = true then (noX (e η1 m2)).bind fun y m3 => if acc.length < sizeLine then compD g t e η ds m3 (acc ++ [y]) else .stk
      else compD g t e η ds m2 acc
theorem lcl_compD (g : GM) (t : TM) (e : EM) (η : Env') (ds : List D) : ∀ (rest pre : List D) (m : Mem) (acc : List D), ds = pre ++ rest → mLcL (srcL ds) g t e η rest.length pre.length m acc = compD g t e η rest m acc
  | [], pre, m, acc, h => by
    have hd : ds[pre.length]? = none := by rw [h, List.append_nil]; exact List.getElem?_eq_none (Nat.le_refl _)
    show mLcL (srcL ds) g t e η 0 pre.length m acc = _
    unfold mLcL compD
    simp only [srcL, hd]
  | d :: rest, pre, m, acc, h => by
    have hd : ds[pre.length]? = some d := by rw [h, List.getElem?_append_right (Nat.le_refl _), Nat.sub_self]; rfl
    have ih := lcl_compD g t e η ds rest (pre ++ [d])
    unfold compD
    rw [List.length_cons]
    unfold mLcL
    simp only [srcL, hd]
    cases noX (g d η m) with
    | ok η1 m1 =>
      simp only [bind_ok]
      cases noX (t η1 m1) with
      | ok b m2 =>
        simp only [bind_ok]
        cases b with
        | false =>
          rw [if_neg Bool.false_ne_true, if_neg Bool.false_ne_true]
          have := ih m2 acc (by rw [h]; simp)
          rw [List.length_append] at this
          exact this
        | true =>
          rw [if_pos rfl, if_pos rfl]
          cases noX (e η1 m2) with
          | ok y m3 =>
            simp only [bind_ok]
            split
            · have := ih m3 (acc ++ [y]) (by rw [h]; simp)
              rw [List.length_append] at this
              exact this
            · rfl
          | _ => rfl
      | _ => rfl
    | _ => rfl
theorem ap_lcl (g : GM) (t : TM) (e : EM) (η : Env') (ds : List D) (m : Mem) (acc : List D) : mLcL (srcL ds) g t e η ds.length 0 m acc = compD g t e η ds m acc := lcl_compD g t e η ds ds [] m acc rfl
@[simp] theorem ap_lc (vs : List Nat) (al : Bool) (ci : IM) (g : GM) (t : TM) (e : EM) (η : Env') (m : Mem) : mLc vs al ci g t e η m = (ci η m).bind fun p m1 => (mLcL p.1 g t e (wipeE η vs) p.2 0 m1 []).bind fun acc m2 => mkL al acc m2 := nr rfl
@[simp] theorem ap_for (ci : IM) (g : GM) (body : SM) (η : Env') (m : Mem) : mFor ci g body η m = (ci η m).toS fun p m1 => mLoop p.1 g body p.2 0 η m1 := nr rfl
@[simp] theorem rngD_length (lo : Int) (n : Nat) : (rngD lo n).length = n := by unfold rngD; rw [List.length_map, List.length_range]
@[simp] theorem ap_lclP (g : GM) (t : TM) (e : EM) (η : Env') (ds : List D) (m : Mem) (acc : List D) : mLcL (srcLP ds).1 g t e η (srcLP ds).2 0 m acc = compD g t e η ds m acc := ap_lcl g t e η ds m acc
@[simp] theorem ap_loopP (g : GM) (body : SM) (ds : List D) (η : Env') (m : Mem) : mLoop (srcLP ds).1 g body (srcLP ds).2 0 η m = forD g body ds η m := ap_loop g body ds η m
@[simp] theorem srcOf_tup (m : Mem) (ds : List D) : srcOf m (.tup ds) = some (srcLP ds) := nr rfl
@[simp] theorem srcOf_lst (m : Mem) (ds : List D) : srcOf m (.lst ds) = some (srcLP ds) := nr rfl
@[simp] theorem srcOf_scr (m : Mem) (ds : List D) : srcOf m (.scr ds) = some (srcLP ds) := nr rfl
@[simp] theorem srcOf_str (m : Mem) (x : Str) : srcOf m (.str x) = some (srcLP (chD x)) := nr rfl
/-- a comprehension by an invariant of the memory and what is made -/
theorem comp_inv' {g : GM} {t : TM} {e : EM} {η : Env'} (I : Nat → Mem → List D → Prop) (n : Nat) : ∀ (ds : List D) (i : Nat) (m : Mem) (acc : List D), i + ds.length = n → I i m acc → (∀ j d m acc, d ∈ ds → j < n → I j m acc → Tri ((noX (g d η m)).bind fun η1 m1 => (noX (t η1 m1)).bind fun b m2 =>
      if b = true then (noX (e η1 m2)).bind fun y m3 => if acc.length < sizeLine then .ok (acc ++ [y]) m3 else .stk else .ok acc m2) (fun acc' m' => I (j + 1) m' acc')) → Tri (compD g t e η ds m acc) (fun acc' m' => I n m' acc')
  | [], i, m, acc, hn, h0, _ => by
    have : i = n := hn
    subst this
    exact h0
  | d :: ds, i, m, acc, hn, h0, h => by
    rw [List.length_cons] at hn
    have h1 := h i d m acc List.mem_cons_self (by omega) h0
    have ih := fun m2 acc q => comp_inv' I n ds (i + 1) m2 acc (by omega) q fun j d m acc hd => h j d m acc (List.mem_cons_of_mem _ hd)
    unfold compD
    rw [tri_bind] at h1 ⊢
    refine h1.mono fun η1 m1 h2 => ?_
    rw [tri_bind] at h2 ⊢
    refine h2.mono fun b m2 h3 => ?_
    cases b with
    | false => exact ih m2 acc h3
    | true =>
      rw [if_pos rfl] at h3 ⊢
      rw [tri_bind] at h3 ⊢
      refine h3.mono fun y m3 h4 => ?_
      split at h4
      · rename_i hlt
        rw [if_pos hlt]
        exact ih m3 _ h4
      · exact h4.elim
theorem comp_inv {g : GM} {t : TM} {e : EM} {η : Env'} {m : Mem} (I : Nat → Mem → List D → Prop) (ds : List D) (h0 : I 0 m []) (h : ∀ j d m acc, d ∈ ds → j < ds.length → I j m acc → Tri ((noX (g d η m)).bind fun η1 m1 => (noX (t η1 m1)).bind fun b m2 =>
      if b = true then (noX (e η1 m2)).bind fun y m3 => if acc.length < sizeLine then .ok (acc ++ [y]) m3 else .stk else .ok acc m2) (fun acc' m' => I (j + 1) m' acc')) : Tri (compD g t e η ds m []) (fun acc' m' => I ds.length m' acc') :=
  comp_inv' I ds.length ds 0 m [] (by omega) h0 h
/-- a loop by an invariant: I by the turn, B behind a break -/
theorem for_inv' {g : GM} {body : SM} (I : Nat → Env' → Mem → Prop) (B : Env' → Mem → Prop) (Rt : D → Mem → Prop) (n : Nat) : ∀ (ds : List D) (i : Nat) (η : Env') (m : Mem), i + ds.length = n → I i η m → (∀ j d η m, ds[j - i]? = some d → i ≤ j → j < n → I j η m → Tri (g d η m) (fun η1 m1 => TriQ (body η1 m1) (I (j + 1)) B (I (j + 1)) Rt)) → (∀ η m, I n η m → B η m) → TriS (forD g body ds η m) B Rt
  | [], i, η, m, hn, h0, _, hB => by
    have : i = n := hn
    subst this
    exact hB η m h0
  | d :: ds, i, η, m, hn, h0, h, hB => by
    rw [List.length_cons] at hn
    have h1 := h i d η m (by rw [Nat.sub_self]; rfl) (Nat.le_refl _) (by omega) h0
    have ih := fun η2 m2 q => for_inv' I B Rt n ds (i + 1) η2 m2 (by omega) q (fun j d η m hd hj => h j d η m (by
      rw [show j - i = (j - (i + 1)) + 1 by omega]
      exact hd) (by omega)) hB
    unfold forD
    cases hg : g d η m with
    | ok η1 m1 =>
      rw [hg] at h1
      simp only [tri_ok, toS_ok] at h1 ⊢
      cases hb : body η1 m1 with
      | nxt η2 m2 => rw [hb] at h1; exact ih η2 m2 h1
      | cnt η2 m2 => rw [hb] at h1; exact ih η2 m2 h1
      | brk η2 m2 => rw [hb] at h1; exact h1
      | ret d m2 => rw [hb] at h1; exact h1
      | exc x m2 => rw [hb] at h1; exact h1.elim
      | stk => rw [hb] at h1; exact h1.elim
    | exc x m1 => rw [hg] at h1; exact h1.elim
    | stk => rw [hg] at h1; exact h1.elim
theorem for_inv {g : GM} {body : SM} {η : Env'} {m : Mem} {B : Env' → Mem → Prop} {Rt : D → Mem → Prop} (I : Nat → Env' → Mem → Prop) (ds : List D) (h0 : I 0 η m) (h : ∀ j d η m, ds[j]? = some d → I j η m → Tri (g d η m) (fun η1 m1 => TriQ (body η1 m1) (I (j + 1)) B (I (j + 1)) Rt)) (hB : ∀ η m, I ds.length η m → B η m) : TriS (forD g body ds η m) B Rt :=
  for_inv' I B Rt ds.length ds 0 η m (by omega) h0 (fun j d η m hd _ _ => h j d η m (by simpa using hd)) hB

/-! ### the drawing of numbers -/
/-- what a flow's list holds -/
def FlowL (l : List D) : Prop := ∃ (ns : List Int) (p g x c : Int), l = [.lst (ns.map .int), .int p, .int g, .int x, .int c] ∧ 0 ≤ p ∧ 0 ≤ g ∧ 0 ≤ x ∧ x < 2147483647
def FlowAt (m : Mem) (i : Nat) : Prop := ∃ l, m[i]? = some (.lst l) ∧ FlowL l
/-- the flow alone has changed -/
def FlowTo (m m' : Mem) (i : Nat) : Prop := ∃ l, FlowL l ∧ m' = m.set i (.lst l)
theorem FlowAt.lt {m : Mem} {i : Nat} (h : FlowAt m i) : i < m.length := by
  obtain ⟨l, e, _⟩ := h
  exact (List.getElem?_eq_some_iff.mp e).1
theorem FlowTo.at {m m' : Mem} {i : Nat} (h : FlowTo m m' i) (hi : FlowAt m i) : FlowAt m' i := by
  obtain ⟨l, h1, rfl⟩ := h
  exact ⟨l, List.getElem?_set_self hi.lt, h1⟩
theorem FlowTo.trans {m m1 m2 : Mem} {i : Nat} (h : FlowTo m m1 i) (k : FlowTo m1 m2 i) : FlowTo m m2 i := by
  obtain ⟨l, h1, rfl⟩ := h
  obtain ⟨l2, h2, rfl⟩ := k
  exact ⟨l2, h2, by rw [List.set_set]⟩
theorem FlowAt.refl {m : Mem} {i : Nat} (h : FlowAt m i) : FlowTo m m i := by
  obtain ⟨l, e, hl⟩ := h
  refine ⟨l, hl, ?_⟩
  apply List.ext_getElem?
  intro j
  by_cases hj : i = j
  · subst hj
    rw [e, List.getElem?_set_self (List.getElem?_eq_some_iff.mp e).1]
  · rw [List.getElem?_set_ne hj]
theorem fmod_pos {a b : Int} (h : 0 < b) : a.fmod b = a % b := Int.fmod_eq_emod_of_nonneg a (Int.le_of_lt h)
theorem fdiv_pos {a b : Int} (h : 0 < b) : a.fdiv b = a / b := Int.fdiv_eq_ediv_of_nonneg a (Int.le_of_lt h)
end Mir

/-! Mir: the numbers drawn of a script. -/
namespace Mir
open PySem PySem.Spec PyProof.Rows L2
def pick2 : SM :=
    (mSeq (mIfS (mTest (mOp gGt (mOp gIx (mVar 0) (mC (.int 2))) (mC (.int 0)))) (mSeq (mAsg (mOp gMod (mOp gIx (mVar 0) (mC (.int 2))) (mVar 1)) (gNm 3))
    (mSeq (mAsg (mOp gFdiv (mOp gIx (mVar 0) (mC (.int 2))) (mVar 1)) (gSubT (mVar 0) (mC (.int 2))))
    (mRet (mVar 3)))) mSkip)
    (mSeq (mAsg (mOp (gAdd false) (mOp gIx (mVar 0) (mC (.int 4))) (mC (.int 1))) (gSubT (mVar 0) (mC (.int 4))))
    (mSeq (mAsg (mOp gMod (mOp (gAdd false) (mOp (gAdd false) (mOp gMulI (mOp gIx (mVar 0) (mC (.int 3))) (mC (.int 48271))) (mC (.int 12820163))) (mOp gIx (mVar 0) (mC (.int 4)))) (mC (.int 2147483647))) (gSubT (mVar 0) (mC (.int 3))))
    (mRet (mOp gMod (mOp gFdiv (mOp gMod (mOp gMulI (mOp (gAdd false) (mOp gMod (mOp gIx (mVar 0) (mC (.int 3))) (mC (.int 65521))) (mC (.int 1))) (mOp (gAdd false) (mOp gFdiv (mOp gIx (mVar 0) (mC (.int 3))) (mC (.int 65521))) (mC (.int 7919)))) (mC (.int 1000003))) (mC (.int 7))) (mVar 1))))))
def pick1 : SM :=
    (mIfS (mAnd (mTest (mOp (gEq false) (mOp gIx (mVar 0) (mC (.int 2))) (mC (.int 0)))) (mTest (mOp gLt (mOp gIx (mVar 0) (mC (.int 1))) (mCB bLen (mCons (mOp gIx (mVar 0) (mC (.int 0))) mNil))))) (mSeq (mAsg (mOp gIx (mOp gIx (mVar 0) (mC (.int 0))) (mOp gIx (mVar 0) (mC (.int 1)))) (gNm 2))
    (mSeq (mAsg (mOp (gAdd false) (mOp gIx (mVar 0) (mC (.int 1))) (mC (.int 1))) (gSubT (mVar 0) (mC (.int 1))))
    (mIfS (mTest (mOp gGe (mVar 2) (mOp gPow (mC (.int 10)) (mC (.int 18))))) (mAsg (mVar 2) (gSubT (mVar 0) (mC (.int 2)))) (mAsg (mOp gMod (mOp (gAdd false) (mOp (gAdd false) (mOp gMulI (mOp gIx (mVar 0) (mC (.int 3))) (mC (.int 40013))) (mOp gMod (mVar 2) (mC (.int 1000003)))) (mC (.int 1))) (mC (.int 2147483647))) (gSubT (mVar 0) (mC (.int 3))))))) mSkip)
def pickB : SM := mSeq pick1 pick2
theorem gIx_ref {m : Mem} {i : Nat} {l : List D} {k : Int} {d : D} (h : m[i]? = some (.lst l)) (hk : atI l k = some d) : gIx (.ref i) (.int k) m = .ok d m := by
  show oR m ((lstC m[i]?).bind fun ds => atI ds k) = _
  rw [h]
  show oR m (atI l k) = _
  rw [hk]
  rfl
theorem gSet_ref {m : Mem} {i : Nat} {l : List D} {k : Int} {j : Nat} {d : D} (h : m[i]? = some (.lst l)) (hk : ixN l.length k = some j) : gSet (.ref i) (.int k) d m = .ok () (m.set i (.lst (l.set j d))) := by
  show setL m i k d = _
  unfold setL
  rw [h]
  simp only [lstC, hk]
@[simp] theorem gEq_int (neg : Bool) (i j : Int) (m : Mem) : gEq neg (.int i) (.int j) m = .ok (.bl (decide (i = j) ^^ neg)) m := by
  simp [gEq, flatD, scal]
@[simp] theorem gCmp_int (f : Int → Int → Bool) (h : List Nat → List Nat → Bool) (i j : Int) (m : Mem) : gCmp f h (.int i) (.int j) m = .ok (.bl (f i j)) m := nr rfl
@[simp] theorem gSub_int (i j : Int) (m : Mem) : gSub (.int i) (.int j) m = .ok (.int (i - j)) m := nr rfl
theorem gMod_pos {i j : Int} {m : Mem} (h : 0 < j) : gMod (.int i) (.int j) m = .ok (.int (i % j)) m := by
  show (if j = 0 then R.stk else R.ok (D.int (i.fmod j)) m) = _
  rw [if_neg (by omega), fmod_pos h]
theorem gFdiv_pos {i j : Int} {m : Mem} (h : 0 < j) (hb : j.natAbs.log2 < 9000) : gFdiv (.int i) (.int j) m = .ok (.int (i / j)) m := by
  show (if divOk j then R.ok (D.int (i.fdiv j)) m else R.stk) = _
  rw [if_pos ⟨by omega, hb⟩, fdiv_pos h]
theorem gMul_r {i j : Int} {m : Mem} (h : j.natAbs < 2 ^ 64) : gMulI (.int i) (.int j) m = .ok (.int (i * j)) m := by
  show (if mulOk i j then R.ok (D.int (i * j)) m else R.stk) = _
  rw [if_pos (.inr (.inl h))]
theorem bLen_ok {m : Mem} {d : D} {n : Nat} (h : lenOf m d = some n) : bLen [d] m = .ok (.int n) m := by
  unfold bLen
  simp only [h]
theorem pow18 (m : Mem) : gPow (.int 10) (.int 18) m = .ok (.int 1000000000000000000) m := by
  show (if powOk 10 18 then R.ok (D.int ((10 : Int) ^ (18 : Int).toNat)) m else R.stk) = _
  rw [if_pos (by decide)]
  rfl
theorem pick_spec {m : Mem} {i : Nat} {n : Int} (hf : FlowAt m i) (hn : 0 < n) (hb : n.natAbs.log2 < 9000) : Tri (mFn 2 4 pickB [.ref i, .int n] m) (fun d m' => ∃ k : Int, d = .int k ∧ 0 ≤ k ∧ k < n ∧ FlowTo m m' i) := by
  have hlt := hf.lt
  obtain ⟨l, hm, ns, p, g, x, c, rfl, hp, hg, hx, hx2⟩ := hf
  refine tri_fn rfl ?_
  have ix0 : ∀ (a b c d e : D), atI [a, b, c, d, e] 0 = some a := fun _ _ _ _ _ => rfl
  have ix1 : ∀ (a b c d e : D), atI [a, b, c, d, e] 1 = some b := fun _ _ _ _ _ => rfl
  have ix2 : ∀ (a b c d e : D), atI [a, b, c, d, e] 2 = some c := fun _ _ _ _ _ => rfl
  have ix3 : ∀ (a b c d e : D), atI [a, b, c, d, e] 3 = some d := fun _ _ _ _ _ => rfl
  have ix4 : ∀ (a b c d e : D), atI [a, b, c, d, e] 4 = some e := fun _ _ _ _ _ => rfl
  have hs : ∀ l, (m.set i (.lst l))[i]? = some (.lst l) := fun l => List.getElem?_set_self hlt
  have se : ∀ (k : Int) (j : Nat) (a b c d e y : D), ixN 5 k = some j → gSet (.ref i) (.int k) y (m.set i (.lst [a, b, c, d, e])) = .ok () (m.set i (.lst ([a, b, c, d, e].set j y))) := fun k j a b c d e y h => by
    rw [gSet_ref (l := [a, b, c, d, e]) (hs _) (j := j) h, List.set_set]
  have s1 := fun a b c d e y => se 1 1 a b c d e y rfl
  have s2 := fun a b c d e y => se 2 2 a b c d e y rfl
  have s3 := fun a b c d e y => se 3 3 a b c d e y rfl
  have s4 := fun a b c d e y => se 4 4 a b c d e y rfl
  have md1 := fun i m => @gMod_pos i 2147483647 m (by decide)
  have md2 := fun i m => @gMod_pos i 65521 m (by decide)
  have md3 := fun i m => @gMod_pos i 1000003 m (by decide)
  have dv1 := fun i m => @gFdiv_pos i 65521 m (by decide) (by decide)
  have dv2 := fun i m => @gFdiv_pos i 7 m (by decide) (by decide)
  have ml1 := fun i m => @gMul_r i 48271 m (by decide)
  have ml2 := fun i m => @gMul_r i 40013 m (by decide)
  have mdn := fun i m => @gMod_pos i n m hn
  have dvn := fun i m => @gFdiv_pos i n m hn hb
  -- the second half, from any flow
  have part2 : ∀ (g x c p : Int) (e2 e3 : Option D), 0 ≤ p → 0 ≤ g → 0 ≤ x → x < 2147483647 → TriS (pick2 [some (.ref i), some (.int n), e2, e3] (m.set i (.lst [.lst (ns.map .int), .int p, .int g, .int x, .int c]))) (fun _ m' => False) (fun d m' => ∃ k : Int, d = .int k ∧ 0 ≤ k ∧ k < n ∧ FlowTo m m' i) := by
    intro g x c p e2 e3 hp hg hx hx2
    have hy0 : 0 ≤ (x * 48271 + 12820163 + (c + 1)) % 2147483647 := Int.emod_nonneg _ (by decide)
    have hy1 : (x * 48271 + 12820163 + (c + 1)) % 2147483647 < 2147483647 := Int.emod_lt_of_pos _ (by decide)
    have ml3 : ∀ i m, gMulI (.int i) (.int ((x * 48271 + 12820163 + (c + 1)) % 2147483647 / 65521 + 7919)) m = .ok (.int (i * ((x * 48271 + 12820163 + (c + 1)) % 2147483647 / 65521 + 7919))) m := fun i m => gMul_r (by omega)
    by_cases h0 : 0 < g
    · simp [pick2, gIx_ref (hs _) (ix2 _ _ _ _ _), h0, mdn, dvn, s2]
      exact ⟨Int.emod_nonneg _ (by omega), Int.emod_lt_of_pos _ hn, _, ⟨ns, p, g / n, x, c, rfl, hp, Int.ediv_nonneg hg (by omega), hx, hx2⟩, rfl⟩
    · simp [pick2, gIx_ref (hs _) (ix2 _ _ _ _ _), gIx_ref (hs _) (ix3 _ _ _ _ _), gIx_ref (hs _) (ix4 _ _ _ _ _), h0, mdn, s3, s4, md1, md2, md3, dv1, dv2, ml1, ml3]
      exact ⟨Int.emod_nonneg _ (by omega), Int.emod_lt_of_pos _ hn, _, ⟨ns, p, g, _, c + 1, rfl, hp, hg, hy0, hy1⟩, rfl⟩
  have m0 : m = m.set i (.lst [.lst (ns.map .int), .int p, .int g, .int x, .int c]) := by
    apply List.ext_getElem?
    intro j
    by_cases hj : i = j
    · subst hj
      rw [hm, hs]
    · rw [List.getElem?_set_ne hj]
  have fin : ∀ {N : Env' → Mem → Prop} {r : RS} {Q : D → Mem → Prop}, TriS r (fun _ _ => False) Q → TriS r N Q := fun h => h.mono (fun _ _ z => z.elim) (fun _ _ z => z)
  show TriS ((pick1 _ m).seq pick2) _ _
  rw [tris_seq]
  have len0 : lenOf m (.lst (ns.map D.int)) = some ns.length := by show some (ns.map D.int).length = _; rw [List.length_map]
  have bl := bLen_ok len0
  have t1 : ∀ y, gSet (.ref i) (.int 1) y m = .ok () (m.set i (.lst [.lst (ns.map .int), y, .int g, .int x, .int c])) := fun y => gSet_ref hm (j := 1) rfl
  have h0 := gIx_ref hm (ix0 _ _ _ _ _)
  have h1 := gIx_ref hm (ix1 _ _ _ _ _)
  have h2 := gIx_ref hm (ix2 _ _ _ _ _)
  by_cases hg0 : g = 0
  · subst hg0
    by_cases hpl : p < (ns.length : Int)
    · -- a cell is taken
      have hat : atI (ns.map D.int) p = some (.int (ns[p.toNat]'(by omega))) := by
        unfold atI ixN
        rw [List.length_map, if_pos hp, if_pos hpl]
        simp only [Option.bind_some, List.getElem?_map]
        rw [List.getElem?_eq_getElem (by omega)]
        rfl
      generalize ns[p.toNat]'(by omega) = cell at hat
      have hix : gIx (.lst (ns.map D.int)) (.int p) m = .ok (.int cell) m := by
        show oR m ((some (ns.map D.int)).bind fun ds => atI ds p) = _
        simp only [Option.bind_some, hat]
        rfl
      by_cases hc : (1000000000000000000 : Int) ≤ cell
      · simp [pick1, h0, h1, h2, bl, hpl, hix, t1, pow18, hc, s2]
        exact fin (part2 cell x c (p + 1) _ _ (by omega) (by omega) hx hx2)
      · simp [pick1, h0, h1, h2, bl, hpl, hix, t1, pow18, hc, gIx_ref (hs _) (ix3 _ _ _ _ _), ml2, md1, md3, s3]
        exact fin (part2 0 _ c (p + 1) _ _ (by omega) (by omega) (Int.emod_nonneg _ (by decide)) (Int.emod_lt_of_pos _ (by decide)))
    · simp [pick1, h0, h1, h2, bl, hpl]
      have q := part2 0 x c p none none hp (by omega) hx hx2
      rw [← m0] at q
      exact fin q
  · simp [pick1, h2, hg0]
    have q := part2 g x c p none none hp hg hx hx2
    rw [← m0] at q
    exact fin q
end Mir

/-! Mir: texts. -/
namespace Mir
open PySem PySem.Spec PyProof.Rows L2 PySem.NumText
theorem slen (x y : Str) : (x ++ y).length = x.length + y.length := by
  show (x.cps ++ y.cps).size = _
  rw [Array.size_append]; rfl
theorem size_le {n : Nat} (h : n ≤ 1000000) : n ≤ sizeLine := Nat.le_trans h (by decide)
theorem size_lt {n : Nat} (h : n < 1000000) : n < sizeLine := Nat.lt_of_lt_of_le h (by decide)
theorem cps_len (x : Str) : x.cps.toList.length = x.length := by simp [Str.length]
theorem joinL_chars : ∀ cs : List Nat, TL.joinL [] (cs.map fun c => [c]) = cs
  | [] => rfl
  | [c] => rfl
  | c :: d :: r => by
    show [c] ++ ([] ++ TL.joinL [] ((d :: r).map fun c => [c])) = _
    rw [joinL_chars (d :: r)]; rfl
theorem join_chars (cs : List Nat) : (Txt.join (Str.ofString "") (cs.map fun c => (⟨#[c]⟩ : Str))) = ⟨cs.toArray⟩ := by
  have h := SX.join_S [] (cs.map fun c => [c])
  rw [joinL_chars] at h
  rw [List.map_map] at h
  exact h
theorem mapO_map {α β γ : Type} {f : β → Option γ} {g : α → β} {h : α → γ} (hf : ∀ x, f (g x) = some (h x)) : ∀ l : List α, mapO f (l.map g) = some (l.map h)
  | [] => rfl
  | x :: l => by
    rw [List.map_cons, List.map_cons]
    unfold mapO
    rw [hf x, mapO_map hf l]
theorem mapO_chars (cs : List Nat) : mapO Mir.strOf (cs.map fun c => D.str ⟨#[c]⟩) = some (cs.map fun c => (⟨#[c]⟩ : Str)) := mapO_map (f := Mir.strOf) (g := fun c => D.str ⟨#[c]⟩) (h := fun c => (⟨#[c]⟩ : Str)) (fun _ => rfl) cs
theorem mapO_bools (bs : List Bool) : mapO boolOf (bs.map .bl) = some bs := by
  have := mapO_map (f := boolOf) (g := D.bl) (h := id) (fun _ => rfl) bs
  rw [List.map_id] at this
  exact this
theorem sum_ones : ∀ cs : List Nat, (List.map (fun x => x.length) (cs.map fun c => (⟨#[c]⟩ : Str))).sum = cs.length
  | [] => rfl
  | c :: cs => by
    rw [List.map_cons, List.map_cons, List.sum_cons, sum_ones cs, List.length_cons]
    show 1 + cs.length = _
    omega
theorem gJoin_chars {m : Mem} {cs : List Nat} (h : cs.length ≤ 1000000) : gJoin (.str (Str.ofString "")) [.lst (cs.map fun c => D.str ⟨#[c]⟩)] m = .ok (.str ⟨cs.toArray⟩) m := by
  unfold gJoin
  simp only [seqOf, lstOf, Option.bind_some, mapO_chars]
  rw [if_pos, join_chars]
  rw [sum_ones, List.length_map]
  show cs.length + cs.length * 0 ≤ _
  omega
theorem gAdd_str {al : Bool} {x y : Str} {m : Mem} (h : x.length + y.length ≤ 1000000) : gAdd al (.str x) (.str y) m = .ok (.str (x ++ y)) m := by
  show (if x.length + y.length ≤ sizeLine then R.ok (D.str (x ++ y)) m else R.stk) = _
  rw [if_pos (size_le h)]
theorem gSl_str {al : Bool} {x : Str} {lo hi : Option Int} {m : Mem} (h : x.length ≤ 1000000) : gSl al (.str x) lo hi m = .ok (.str (cutS x lo hi)) m := by
  show (if x.length ≤ sizeLine then R.ok (D.str (cutS x lo hi)) m else R.stk) = _
  rw [if_pos (size_le h)]
theorem bLen_str {x : Str} {m : Mem} (h : x.length ≤ 1000000) : bLen [.str x] m = .ok (.int x.length) m := bLen_ok (show (if x.length ≤ sizeLine then some x.length else none) = _ by rw [if_pos (size_le h)])
@[simp] theorem bLen_lst (ds : List D) (m : Mem) : bLen [.lst ds] m = .ok (.int ds.length) m := nr rfl
@[simp] theorem bLen_tup (ds : List D) (m : Mem) : bLen [.tup ds] m = .ok (.int ds.length) m := nr rfl
theorem gIx_str {x : Str} {k : Int} {m : Mem} {c : Nat} (h : x.length ≤ 1000000) (hc : atI x.cps.toList k = some c) : gIx (.str x) (.int k) m = .ok (.str ⟨#[c]⟩) m := by
  show oR m (if x.length ≤ sizeLine then (atI x.cps.toList k).map fun c => D.str ⟨#[c]⟩ else none) = _
  rw [if_pos (size_le h), hc]
  rfl
theorem gIx_lst {l : List D} {k : Int} {m : Mem} {d : D} (hc : atI l k = some d) : gIx (.lst l) (.int k) m = .ok d m := by
  show oR m (atI l k) = _
  rw [hc]; rfl
theorem gIx_tup {l : List D} {k : Int} {m : Mem} {d : D} (hc : atI l k = some d) : gIx (.tup l) (.int k) m = .ok d m := by
  show oR m (atI l k) = _
  rw [hc]; rfl
theorem inV_strs {x : Str} : ∀ ys : List Str, inV (.str x) (ys.map V.str) = decide (x ∈ ys)
  | [] => by simp [inV]
  | y :: ys => by
    have ih := inV_strs (x := x) ys
    unfold inV at ih ⊢
    rw [List.map_cons, List.any_cons, ih]
    show ((y == x) || decide (x ∈ ys)) = _
    by_cases h : y = x
    · subst h; simp
    · simp [h, Ne.symm h]
theorem mapO_strs (ys : List Str) : mapO flatD (ys.map D.str) = some (ys.map V.str) := mapO_map (f := flatD) (g := D.str) (h := V.str) (fun _ => rfl) ys
theorem gIn_tstrs {x : Str} {ys : List Str} {neg : Bool} {m : Mem} : gIn neg (.str x) (.tup (ys.map .str)) m = .ok (.bl (decide (x ∈ ys) ^^ neg)) m := by
  show bR neg m (flatIn (.str x) (ys.map .str)) = _
  unfold flatIn
  simp only [flatD, mapO_strs, inV_strs]
  rfl
@[simp] theorem gIn_sign {c : Nat} {y : Str} {neg : Bool} {m : Mem} : gIn neg (.str ⟨#[c]⟩) (.str y) m = .ok (.bl (decide (c ∈ y.cps.toList) ^^ neg)) m := nr rfl
@[simp] theorem S_eq {a b : List Nat} : ((SX.S a : Str) = SX.S b) = (a = b) := propext ⟨SX.S_inj, fun e => by rw [e]⟩
@[simp] theorem S_length (a : List Nat) : (SX.S a).length = a.length := SX.S_len a
@[simp] theorem bInt_bl (b : Bool) (m : Mem) : bInt [.bl b] m = .ok (.int (if b then 1 else 0)) m := nr rfl
@[simp] theorem truD_bl (m : Mem) (b : Bool) : truD m (.bl b) = some b := nr rfl
@[simp] theorem gIs_non (d : D) (neg : Bool) (m : Mem) : gIs neg d .non m = .ok (.bl (isNon d ^^ neg)) m := nr rfl
/-- a while by an invariant with a measure -/
theorem wh_inv {t : TM} {body : SM} {N : Env' → Mem → Prop} {Rt : D → Mem → Prop} (I : Nat → Env' → Mem → Prop) (h : ∀ n η m, I n η m → Tri (t η m) (fun b m1 => if b = true then TriS (body η m1) (fun η2 m2 => ∃ k, k < n ∧ I k η2 m2) Rt else N η m1)) : ∀ (f n : Nat) (η : Env') (m : Mem), n < f → I n η m → TriS (mWh t body f η m) N Rt
  | 0, n, η, m, hn, _ => by omega
  | f + 1, n, η, m, hn, hi => by
    have h1 := h n η m hi
    unfold mWh
    rw [tris_toS]
    refine h1.mono fun b m1 h2 => ?_
    cases b with
    | false => exact h2
    | true =>
      rw [if_pos rfl] at h2 ⊢
      cases hb : body η m1 with
      | nxt η2 m2 =>
        rw [hb] at h2
        obtain ⟨k, hk, hi2⟩ := h2
        exact wh_inv I h f k η2 m2 (by omega) hi2
      | ret d m2 => rw [hb] at h2; exact h2
      | cnt η2 m2 => rw [hb] at h2; exact h2.elim
      | brk η2 m2 => rw [hb] at h2; exact h2.elim
      | exc x m2 => rw [hb] at h2; exact h2.elim
      | stk => rw [hb] at h2; exact h2.elim
end Mir

/-! Mir: fractions are Lean's rational numbers. -/
namespace Mir.Fr
open PySem PySem.Spec PyProof.Rows L2 Mir
theorem log2_lt {n k : Nat} (h : n < 2 ^ k) (hk : 0 < k) : n.log2 < k := by
  by_cases hn : n = 0
  · subst hn
    simpa using hk
  · exact (Nat.log2_lt hn).mpr h
/-- of at most so many bits -/
def QB (k : Nat) (q : Rat) : Prop := q.num.natAbs < 2 ^ k ∧ q.den < 2 ^ k
theorem QB.mono {j k : Nat} {q : Rat} (h : QB j q) (hk : j ≤ k) : QB k q := ⟨Nat.lt_of_lt_of_le h.1 (Nat.pow_le_pow_right (by decide) hk), Nat.lt_of_lt_of_le h.2 (Nat.pow_le_pow_right (by decide) hk)⟩
theorem mul_bd {i j : Int} {a b : Nat} (hi : i.natAbs < 2 ^ a) (hj : j.natAbs < 2 ^ b) : (i * j).natAbs < 2 ^ (a + b) := wide_lt hi hj
theorem den_bd {q : Rat} {k : Nat} (h : q.den < 2 ^ k) : (q.den : Int).natAbs < 2 ^ k := by rw [Int.natAbs_natCast]; exact h
section
variable {m : Mem} {p q : Rat} {k : Nat}
variable (hp : QB k p) (hq : QB k q) (hk : 0 < k) (hk2 : k ≤ 4000)
theorem b2 (hp : QB k p) (hq : QB k q) : ((p.den : Int) * q.den).natAbs < 2 ^ (k + k) := mul_bd (den_bd hp.2) (den_bd hq.2)
end
end Mir.Fr

/-! Mir: more reasoning: loops over zip and enumerate, typed lists, the flow beside other cells. -/
namespace Mir
open PySem PySem.Spec PyProof.Rows L2
/-! ### small sizes -/
@[simp] theorem szl0 : (0 ≤ sizeLine) = True := eq_true (size_le (by decide))
@[simp] theorem szl1 : (1 ≤ sizeLine) = True := eq_true (size_le (by decide))
@[simp] theorem szl2 : (2 ≤ sizeLine) = True := eq_true (size_le (by decide))
@[simp] theorem szl3 : (3 ≤ sizeLine) = True := eq_true (size_le (by decide))
@[simp] theorem szl4 : (4 ≤ sizeLine) = True := eq_true (size_le (by decide))
@[simp] theorem szl5 : (5 ≤ sizeLine) = True := eq_true (size_le (by decide))
@[simp] theorem szl6 : (6 ≤ sizeLine) = True := eq_true (size_le (by decide))
@[simp] theorem szl7 : (7 ≤ sizeLine) = True := eq_true (size_le (by decide))
@[simp] theorem szl8 : (8 ≤ sizeLine) = True := eq_true (size_le (by decide))
@[simp] theorem szl9 : (9 ≤ sizeLine) = True := eq_true (size_le (by decide))
@[simp] theorem szl10 : (10 ≤ sizeLine) = True := eq_true (size_le (by decide))
@[simp] theorem szl11 : (11 ≤ sizeLine) = True := eq_true (size_le (by decide))
@[simp] theorem szl12 : (12 ≤ sizeLine) = True := eq_true (size_le (by decide))
@[simp] theorem szl13 : (13 ≤ sizeLine) = True := eq_true (size_le (by decide))
@[simp] theorem szl14 : (14 ≤ sizeLine) = True := eq_true (size_le (by decide))
@[simp] theorem szl15 : (15 ≤ sizeLine) = True := eq_true (size_le (by decide))
@[simp] theorem szl16 : (16 ≤ sizeLine) = True := eq_true (size_le (by decide))
@[simp] theorem szl17 : (17 ≤ sizeLine) = True := eq_true (size_le (by decide))
@[simp] theorem szl18 : (18 ≤ sizeLine) = True := eq_true (size_le (by decide))
@[simp] theorem szl19 : (19 ≤ sizeLine) = True := eq_true (size_le (by decide))
@[simp] theorem szl20 : (20 ≤ sizeLine) = True := eq_true (size_le (by decide))
@[simp] theorem isTy_lst (ds : List D) (m : Mem) : isTy "list" m (.lst ds) = true := nr rfl
@[simp] theorem isTy_tup (ds : List D) (m : Mem) : isTy "tuple" m (.tup ds) = true := nr rfl
@[simp] theorem isTy_str (x : Str) (m : Mem) : isTy "str" m (.str x) = true := nr rfl
theorem isTy_ref {m : Mem} {j : Nat} {l : List D} (h : m[j]? = some (.lst l)) : isTy "list" m (.ref j) = true := by
  show ("list" == "list" && (lstC m[j]?).isSome) = true
  rw [h]
  rfl
theorem len_ref {m : Mem} {j : Nat} {l : List D} (h : m[j]? = some (.lst l)) : bLen [.ref j] m = .ok (.int (l.length : Nat)) m := by
  have : lenOf m (.ref j) = some l.length := by
    unfold lenOf
    simp [seqOf, lstOf, h, lstC]
  exact bLen_ok this
theorem append_ref {m : Mem} {j : Nat} {l : List D} {d : D} (h : m[j]? = some (.lst l)) (hl : l.length < 1000000) : gAppend (.ref j) [d] m = .ok .non (m.set j (.lst (l ++ [d]))) := by
  unfold gAppend
  simp only [h, lstC, if_pos (size_lt hl)]
theorem tuple_ref {m : Mem} {j : Nat} {l : List D} (h : m[j]? = some (.lst l)) : bTuple [.ref j] m = .ok (.tup l) m := by
  unfold bTuple
  simp [seqOf, lstOf, h, lstC]
@[simp] theorem own_lst (ds : List D) (m : Mem) : lstOwn m (.lst ds) = some ds := nr rfl
theorem own_ref {m : Mem} {j : Nat} {l : List D} (h : m[j]? = some (.lst l)) : lstOwn m (.ref j) = some l := by
  show lstC m[j]? = _
  rw [h]
  rfl
theorem cat_own {m : Mem} {d e : D} {xs ys : List D} (h1 : lstOwn m d = some xs) (h2 : lstOwn m e = some ys) (hl : xs.length + ys.length ≤ 1000000) : gAdd false d e m = .ok (.lst (xs ++ ys)) m := by
  have e : gAdd false d e m = catL false m (lstOwn m d) (lstOwn m e) := by
    cases d with
    | lst _ => rfl
    | ref _ => rfl
    | _ => cases h1
  rw [e, h1, h2]
  show (if xs.length + ys.length ≤ sizeLine then mkL false (xs ++ ys) m else .stk) = _
  rw [if_pos (size_le hl)]
  rfl
@[simp] theorem gIx_tup1 (a0 a1 : D) (l : List D) (m : Mem) : gIx (.tup (a0 :: a1 :: l)) (.int 1) m = .ok a1 m := by
  have : atI (a0 :: a1 :: l) 1 = some a1 := by
    unfold atI ixN
    rw [if_pos (by decide), if_pos (by simp only [List.length_cons]; omega)]
    rfl
  exact gIx_tup this
@[simp] theorem gIx_tup2 (a0 a1 a2 : D) (l : List D) (m : Mem) : gIx (.tup (a0 :: a1 :: a2 :: l)) (.int 2) m = .ok a2 m := by
  have : atI (a0 :: a1 :: a2 :: l) 2 = some a2 := by
    unfold atI ixN
    rw [if_pos (by decide), if_pos (by simp only [List.length_cons]; omega)]
    rfl
  exact gIx_tup this
@[simp] theorem gIx_tup3 (a0 a1 a2 a3 : D) (l : List D) (m : Mem) : gIx (.tup (a0 :: a1 :: a2 :: a3 :: l)) (.int 3) m = .ok a3 m := by
  have : atI (a0 :: a1 :: a2 :: a3 :: l) 3 = some a3 := by
    unfold atI ixN
    rw [if_pos (by decide), if_pos (by simp only [List.length_cons]; omega)]
    rfl
  exact gIx_tup this
@[simp] theorem gIx_tup4 (a0 a1 a2 a3 a4 : D) (l : List D) (m : Mem) : gIx (.tup (a0 :: a1 :: a2 :: a3 :: a4 :: l)) (.int 4) m = .ok a4 m := by
  have : atI (a0 :: a1 :: a2 :: a3 :: a4 :: l) 4 = some a4 := by
    unfold atI ixN
    rw [if_pos (by decide), if_pos (by simp only [List.length_cons]; omega)]
    rfl
  exact gIx_tup this
@[simp] theorem gIx_tup5 (a0 a1 a2 a3 a4 a5 : D) (l : List D) (m : Mem) : gIx (.tup (a0 :: a1 :: a2 :: a3 :: a4 :: a5 :: l)) (.int 5) m = .ok a5 m := by
  have : atI (a0 :: a1 :: a2 :: a3 :: a4 :: a5 :: l) 5 = some a5 := by
    unfold atI ixN
    rw [if_pos (by decide), if_pos (by simp only [List.length_cons]; omega)]
    rfl
  exact gIx_tup this
@[simp] theorem gIx_lst1 (a0 a1 : D) (l : List D) (m : Mem) : gIx (.lst (a0 :: a1 :: l)) (.int 1) m = .ok a1 m := by
  have : atI (a0 :: a1 :: l) 1 = some a1 := by
    unfold atI ixN
    rw [if_pos (by decide), if_pos (by simp only [List.length_cons]; omega)]
    rfl
  exact gIx_lst this
@[simp] theorem gIx_lst2 (a0 a1 a2 : D) (l : List D) (m : Mem) : gIx (.lst (a0 :: a1 :: a2 :: l)) (.int 2) m = .ok a2 m := by
  have : atI (a0 :: a1 :: a2 :: l) 2 = some a2 := by
    unfold atI ixN
    rw [if_pos (by decide), if_pos (by simp only [List.length_cons]; omega)]
    rfl
  exact gIx_lst this
@[simp] theorem gIx_lst3 (a0 a1 a2 a3 : D) (l : List D) (m : Mem) : gIx (.lst (a0 :: a1 :: a2 :: a3 :: l)) (.int 3) m = .ok a3 m := by
  have : atI (a0 :: a1 :: a2 :: a3 :: l) 3 = some a3 := by
    unfold atI ixN
    rw [if_pos (by decide), if_pos (by simp only [List.length_cons]; omega)]
    rfl
  exact gIx_lst this
@[simp] theorem gIx_lst4 (a0 a1 a2 a3 a4 : D) (l : List D) (m : Mem) : gIx (.lst (a0 :: a1 :: a2 :: a3 :: a4 :: l)) (.int 4) m = .ok a4 m := by
  have : atI (a0 :: a1 :: a2 :: a3 :: a4 :: l) 4 = some a4 := by
    unfold atI ixN
    rw [if_pos (by decide), if_pos (by simp only [List.length_cons]; omega)]
    rfl
  exact gIx_lst this
@[simp] theorem gIx_lst5 (a0 a1 a2 a3 a4 a5 : D) (l : List D) (m : Mem) : gIx (.lst (a0 :: a1 :: a2 :: a3 :: a4 :: a5 :: l)) (.int 5) m = .ok a5 m := by
  have : atI (a0 :: a1 :: a2 :: a3 :: a4 :: a5 :: l) 5 = some a5 := by
    unfold atI ixN
    rw [if_pos (by decide), if_pos (by simp only [List.length_cons]; omega)]
    rfl
  exact gIx_lst this
@[simp] theorem bMax_int (i j : Int) (m : Mem) : bMax [.int i, .int j] m = .ok (.int (if j > i then j else i)) m := nr rfl
@[simp] theorem bMin_int (i j : Int) (m : Mem) : bMin [.int i, .int j] m = .ok (.int (if j < i then j else i)) m := nr rfl
@[simp] theorem bTuple_lst (ds : List D) (m : Mem) : bTuple [.lst ds] m = .ok (.tup ds) m := nr rfl
@[simp] theorem bTuple_tup (ds : List D) (m : Mem) : bTuple [.tup ds] m = .ok (.tup ds) m := nr rfl
@[simp] theorem bList_lst (ds : List D) (m : Mem) : bList false [.lst ds] m = .ok (.lst ds) m := nr rfl
@[simp] theorem bList_tup (ds : List D) (m : Mem) : bList false [.tup ds] m = .ok (.lst ds) m := nr rfl
@[simp] theorem bListT_lst (ds : List D) (m : Mem) : bList true [.lst ds] m = .ok (.ref m.length) (m ++ [.lst ds]) := nr rfl
@[simp] theorem bListT_tup (ds : List D) (m : Mem) : bList true [.tup ds] m = .ok (.ref m.length) (m ++ [.lst ds]) := nr rfl
theorem repL_lst {ds : List D} {k : Int} {m : Mem} (h0 : -1000000 ≤ k) (h1 : k ≤ 1000000) (h2 : ds.length * k.toNat ≤ 1000000) : gRepL false (.lst ds) (.int k) m = .ok (.lst (List.replicate k.toNat ds).flatten) m := by
  show (if rngB k = true ∧ ds.length * k.toNat ≤ sizeLine then mkL false (List.replicate k.toNat ds).flatten m else .stk) = _
  rw [if_pos ⟨(rngB_iff k).mpr (by omega), size_le h2⟩]
  rfl
theorem bAll_bls {f : List Bool → Bool} {bs : List Bool} {m : Mem} : bAll f [.lst (bs.map .bl)] m = .ok (.bl (f bs)) m := by
  unfold bAll
  simp only [lstOf, Option.bind_some, mapO_bools]
/-! ### the flow beside other cells -/
def Flo (m m' : Mem) (i : Nat) : Prop := FlowAt m' i ∧ m.length ≤ m'.length ∧ ∀ j, j ≠ i → j < m.length → m'[j]? = m[j]?
theorem Flo.refl {m : Mem} {i : Nat} (h : FlowAt m i) : Flo m m i := ⟨h, Nat.le_refl _, fun _ _ _ => rfl⟩
theorem Flo.at {m m' : Mem} {i : Nat} (h : Flo m m' i) : FlowAt m' i := h.1
theorem Flo.trans {m m1 m2 : Mem} {i : Nat} (h : Flo m m1 i) (k : Flo m1 m2 i) : Flo m m2 i :=
  ⟨k.1, Nat.le_trans h.2.1 k.2.1, fun j hj hl => (k.2.2 j hj (Nat.lt_of_lt_of_le hl h.2.1)).trans (h.2.2 j hj hl)⟩
theorem FlowTo.flo {m m' : Mem} {i : Nat} (h : FlowTo m m' i) (hi : FlowAt m i) : Flo m m' i := by
  refine ⟨h.at hi, ?_, fun j hj hl => ?_⟩
  · obtain ⟨l, _, rfl⟩ := h
    rw [List.length_set]
    exact Nat.le_refl _
  · obtain ⟨l, _, rfl⟩ := h
    exact List.getElem?_set_ne (Ne.symm hj)
theorem Flo.get {m m' : Mem} {i j : Nat} {c : Cell} (h : Flo m m' i) (hj : j ≠ i) (hc : m[j]? = some c) : m'[j]? = some c := by
  rw [h.2.2 j hj (List.getElem?_eq_some_iff.mp hc).1]
  exact hc
/-- a new cell -/
theorem Flo.push {m m' : Mem} {i : Nat} (h : Flo m m' i) (c : Cell) : Flo m (m' ++ [c]) i := by
  refine ⟨?_, by rw [List.length_append]; exact Nat.le_trans h.2.1 (Nat.le_add_right _ _), fun j hj hl => ?_⟩
  · obtain ⟨l, e, hl⟩ := h.1
    exact ⟨l, by rw [List.getElem?_append_left (List.getElem?_eq_some_iff.mp e).1]; exact e, hl⟩
  · rw [List.getElem?_append_left (Nat.lt_of_lt_of_le hl h.2.1)]
    exact h.2.2 j hj hl
/-- a cell beyond is changed -/
theorem Flo.put {m m' : Mem} {i j : Nat} (h : Flo m m' i) (hj : m.length ≤ j) (hi : j ≠ i) (c : Cell) : Flo m (m'.set j c) i := by
  refine ⟨?_, by rw [List.length_set]; exact h.2.1, fun k hk hl => ?_⟩
  · obtain ⟨l, e, hl⟩ := h.1
    exact ⟨l, by rw [List.getElem?_set_ne hi]; exact e, hl⟩
  · rw [List.getElem?_set_ne (by omega)]
    exact h.2.2 k hk hl
theorem log_small {n : Int} (h : n.natAbs < 2 ^ 64) : n.natAbs.log2 < 9000 := by
  by_cases h0 : n.natAbs = 0
  · rw [h0]; decide
  · exact Nat.lt_of_lt_of_le ((Nat.log2_lt h0).mpr h) (by decide)
theorem pick_flo {m : Mem} {i : Nat} {n : Int} (hf : FlowAt m i) (hn : 0 < n) (hb : n < 2 ^ 64) : Tri (mFn 2 4 pickB [.ref i, .int n] m) (fun d m' => ∃ k : Nat, d = .int (k : Nat) ∧ (k : Int) < n ∧ Flo m m' i) :=
  (pick_spec hf hn (log_small (by omega))).mono fun d m' ⟨k, e, h0, h1, h2⟩ => ⟨k.toNat, by rw [e, Int.toNat_of_nonneg h0], by rw [Int.toNat_of_nonneg h0]; exact h1, h2.flo hf⟩

/-! ### sources that hold still -/
theorem loop_pure {src : Src} {g : GM} {body : SM} {ds : List D} (h : ∀ k m, k ≤ ds.length → src k m = some ds[k]?) : ∀ (n k : Nat) (η : Env') (m : Mem), n + k = ds.length → mLoop src g body n k η m = mLoop (srcL ds) g body n k η m
  | 0, k, η, m, e => by
    unfold mLoop
    rw [h k m (by omega)]
    rfl
  | n + 1, k, η, m, e => by
    unfold mLoop
    have hL : srcL ds k m = some ds[k]? := rfl
    rw [h k m (by omega), hL]
    cases hd : ds[k]? with
    | none => rfl
    | some d =>
      simp only
      cases g d η m with
      | ok η1 m1 =>
        simp only [toS_ok]
        cases body η1 m1 with
        | nxt η2 m2 => exact loop_pure h n (k + 1) η2 m2 (by omega)
        | cnt η2 m2 => exact loop_pure h n (k + 1) η2 m2 (by omega)
        | _ => rfl
      | _ => rfl
theorem loop_for {src : Src} {g : GM} {body : SM} {ds : List D} {n : Nat} {η : Env'} {m : Mem} (hn : n = ds.length) (h : ∀ k m, k ≤ ds.length → src k m = some ds[k]?) : mLoop src g body n 0 η m = forD g body ds η m := by
  subst hn
  rw [loop_pure h _ 0 η m rfl]
  exact ap_loop g body ds η m
theorem lcl_pure {src : Src} {g : GM} {t : TM} {e : EM} {η : Env'} {ds : List D} (h : ∀ k m, k ≤ ds.length → src k m = some ds[k]?) : ∀ (n k : Nat) (m : Mem) (acc : List D), n + k = ds.length → mLcL src g t e η n k m acc = mLcL (srcL ds) g t e η n k m acc
  | 0, k, m, acc, e => by
    unfold mLcL
    rw [h k m (by omega)]
    rfl
  | n + 1, k, m, acc, e => by
    unfold mLcL
    have hL : srcL ds k m = some ds[k]? := rfl
    rw [h k m (by omega), hL]
    cases hd : ds[k]? with
    | none => rfl
    | some d =>
      simp only
      congr
      funext η1 m1
      congr
      funext b m2
      split
      · congr
        funext y m3
        split
        · exact lcl_pure h n (k + 1) m3 _ (by omega)
        · rfl
      · exact lcl_pure h n (k + 1) m2 _ (by omega)
theorem lcl_comp {src : Src} {g : GM} {t : TM} {e : EM} {η : Env'} {ds : List D} {n : Nat} {m : Mem} {acc : List D} (hn : n = ds.length) (h : ∀ k m, k ≤ ds.length → src k m = some ds[k]?) : mLcL src g t e η n 0 m acc = compD g t e η ds m acc := by
  subst hn
  rw [lcl_pure h _ 0 m acc rfl]
  exact ap_lcl g t e η ds m acc
def zipD (xs ys : List D) : List D := List.zipWith (fun x y => D.tup [x, y]) xs ys
def enumD (c : Int) (xs : List D) : List D := xs.zipIdx.map fun p => D.tup [.int (c + (p.2 : Nat)), p.1]
theorem zipD_length (xs ys : List D) : (zipD xs ys).length = min xs.length ys.length := by unfold zipD; simp
theorem enumD_length (c : Int) (xs : List D) : (enumD c xs).length = xs.length := by unfold enumD; simp
theorem srcZ_pure {f g : Mem → Option (List D)} {xs ys : List D} (hf : ∀ m, f m = some xs) (hg : ∀ m, g m = some ys) (k : Nat) (m : Mem) (hk : k ≤ (zipD xs ys).length) : srcZ f g k m = some (zipD xs ys)[k]? := by
  unfold srcZ
  rw [hf, hg]
  simp only
  rw [zipD_length] at hk
  unfold zipD
  rw [List.getElem?_zipWith]
  cases hx : xs[k]? with
  | none =>
    have := List.getElem?_eq_none_iff.mp hx
    simp
    omega
  | some x =>
    cases hy : ys[k]? with
    | none =>
      have := List.getElem?_eq_none_iff.mp hy
      simp
      omega
    | some y => rfl
theorem srcE_pure {c : Int} {f : Mem → Option (List D)} {xs : List D} (hf : ∀ m, f m = some xs) (k : Nat) (m : Mem) (hk : k ≤ (enumD c xs).length) : srcE c f k m = some (enumD c xs)[k]? := by
  unfold srcE
  rw [hf]
  simp only
  rw [enumD_length] at hk
  unfold enumD
  rw [List.getElem?_map, List.getElem?_zipIdx]
  cases hx : xs[k]? with
  | none =>
    have := List.getElem?_eq_none_iff.mp hx
    simp
    omega
  | some x => simp
section
variable (η : Env') (m : Mem) (a b : EM) (g : GM) (body : SM) (t : TM) (e : EM) (xs ys acc : List D) (c : Int)
def zipR (x y : D) (m : Mem) : R (Src × Nat) := match rdS1 x m, rdS1 y m with
  | some xs, some ys => .ok (srcZ (rdS1 x) (rdS1 y), min xs.length ys.length) m
  | _, _ => .stk
def enumR (c : Int) (x : D) (m : Mem) : R (Src × Nat) := match rdS1 x m with
  | some xs => .ok (srcE c (rdS1 x), xs.length) m
  | none => .stk
@[simp] theorem ap_zip : mZip a b η m = (a η m).bind fun x m1 => (b η m1).bind fun y m2 => zipR x y m2 := rfl
@[simp] theorem ap_enum : mEnum c a η m = (a η m).bind fun x m1 => enumR c x m1 := rfl
@[simp] theorem zipR_tt : zipR (.tup xs) (.tup ys) m = .ok (srcZ (rdS1 (.tup xs)) (rdS1 (.tup ys)), min xs.length ys.length) m := rfl
@[simp] theorem zipR_tl : zipR (.tup xs) (.lst ys) m = .ok (srcZ (rdS1 (.tup xs)) (rdS1 (.lst ys)), min xs.length ys.length) m := rfl
@[simp] theorem zipR_lt : zipR (.lst xs) (.tup ys) m = .ok (srcZ (rdS1 (.lst xs)) (rdS1 (.tup ys)), min xs.length ys.length) m := rfl
@[simp] theorem zipR_ll : zipR (.lst xs) (.lst ys) m = .ok (srcZ (rdS1 (.lst xs)) (rdS1 (.lst ys)), min xs.length ys.length) m := rfl
@[simp] theorem enumR_t : enumR c (.tup xs) m = .ok (srcE c (rdS1 (.tup xs)), xs.length) m := rfl
@[simp] theorem enumR_l : enumR c (.lst xs) m = .ok (srcE c (rdS1 (.lst xs)), xs.length) m := rfl
@[simp] theorem loopZ_tt : mLoop (srcZ (rdS1 (.tup xs)) (rdS1 (.tup ys))) g body (min xs.length ys.length) 0 η m = forD g body (zipD xs ys) η m := loop_for (zipD_length xs ys).symm (srcZ_pure (fun _ => rfl) (fun _ => rfl))
@[simp] theorem loopZ_tl : mLoop (srcZ (rdS1 (.tup xs)) (rdS1 (.lst ys))) g body (min xs.length ys.length) 0 η m = forD g body (zipD xs ys) η m := loop_for (zipD_length xs ys).symm (srcZ_pure (fun _ => rfl) (fun _ => rfl))
@[simp] theorem loopZ_lt : mLoop (srcZ (rdS1 (.lst xs)) (rdS1 (.tup ys))) g body (min xs.length ys.length) 0 η m = forD g body (zipD xs ys) η m := loop_for (zipD_length xs ys).symm (srcZ_pure (fun _ => rfl) (fun _ => rfl))
@[simp] theorem loopZ_ll : mLoop (srcZ (rdS1 (.lst xs)) (rdS1 (.lst ys))) g body (min xs.length ys.length) 0 η m = forD g body (zipD xs ys) η m := loop_for (zipD_length xs ys).symm (srcZ_pure (fun _ => rfl) (fun _ => rfl))
@[simp] theorem lclZ_tt : mLcL (srcZ (rdS1 (.tup xs)) (rdS1 (.tup ys))) g t e η (min xs.length ys.length) 0 m acc = compD g t e η (zipD xs ys) m acc := lcl_comp (zipD_length xs ys).symm (srcZ_pure (fun _ => rfl) (fun _ => rfl))
@[simp] theorem lclZ_tl : mLcL (srcZ (rdS1 (.tup xs)) (rdS1 (.lst ys))) g t e η (min xs.length ys.length) 0 m acc = compD g t e η (zipD xs ys) m acc := lcl_comp (zipD_length xs ys).symm (srcZ_pure (fun _ => rfl) (fun _ => rfl))
@[simp] theorem lclZ_lt : mLcL (srcZ (rdS1 (.lst xs)) (rdS1 (.tup ys))) g t e η (min xs.length ys.length) 0 m acc = compD g t e η (zipD xs ys) m acc := lcl_comp (zipD_length xs ys).symm (srcZ_pure (fun _ => rfl) (fun _ => rfl))
@[simp] theorem lclZ_ll : mLcL (srcZ (rdS1 (.lst xs)) (rdS1 (.lst ys))) g t e η (min xs.length ys.length) 0 m acc = compD g t e η (zipD xs ys) m acc := lcl_comp (zipD_length xs ys).symm (srcZ_pure (fun _ => rfl) (fun _ => rfl))
@[simp] theorem loopE_t : mLoop (srcE c (rdS1 (.tup xs))) g body xs.length 0 η m = forD g body (enumD c xs) η m := loop_for (enumD_length c xs).symm (srcE_pure (fun _ => rfl))
@[simp] theorem loopE_l : mLoop (srcE c (rdS1 (.lst xs))) g body xs.length 0 η m = forD g body (enumD c xs) η m := loop_for (enumD_length c xs).symm (srcE_pure (fun _ => rfl))
@[simp] theorem lclE_t : mLcL (srcE c (rdS1 (.tup xs))) g t e η xs.length 0 m acc = compD g t e η (enumD c xs) m acc := lcl_comp (enumD_length c xs).symm (srcE_pure (fun _ => rfl))
@[simp] theorem lclE_l : mLcL (srcE c (rdS1 (.lst xs))) g t e η xs.length 0 m acc = compD g t e η (enumD c xs) m acc := lcl_comp (enumD_length c xs).symm (srcE_pure (fun _ => rfl))
end
theorem zipD_map {α β : Type} (f : α → D) (g : β → D) (xs : List α) (ys : List β) : zipD (xs.map f) (ys.map g) = (xs.zip ys).map fun p => D.tup [f p.1, g p.2] := by
  unfold zipD
  rw [List.zipWith_map, List.zip, List.map_zipWith]
theorem enumD_map {α : Type} (c : Int) (f : α → D) (xs : List α) : enumD c (xs.map f) = xs.zipIdx.map fun p => D.tup [.int (c + (p.2 : Nat)), f p.1] := by
  unfold enumD
  rw [List.zipIdx_map, List.map_map]
  rfl

/-! ### comprehensions over typed lists -/
theorem comp_mapT {α : Type} {g : GM} {t : TM} {e : EM} {η : Env'} {m : Mem} (emb f : α → D) : ∀ (xs : List α) (acc : List D), (∀ x ∈ xs, ∃ η1, g (emb x) η m = .ok η1 m ∧ t η1 m = .ok true m ∧ e η1 m = .ok (f x) m) → acc.length + xs.length ≤ 1000000 → compD g t e η (xs.map emb) m acc = .ok (acc ++ xs.map f) m
  | [], acc, _, _ => by simp [compD]
  | x :: xs, acc, h, hl => by
    obtain ⟨η1, h1, h2, h3⟩ := h x List.mem_cons_self
    have hlt : acc.length < sizeLine := size_lt (by simp at hl; omega)
    rw [List.map_cons]
    unfold compD
    simp only [h1, h2, h3, noX_ok, bind_ok, if_true, hlt]
    rw [comp_mapT emb f xs (acc ++ [f x]) (fun y hy => h y (List.mem_cons_of_mem _ hy)) (by simp at hl ⊢; omega)]
    simp
theorem comp_filterT {α : Type} {g : GM} {t : TM} {e : EM} {η : Env'} {m : Mem} (emb f : α → D) (p : α → Bool) : ∀ (xs : List α) (acc : List D), (∀ x ∈ xs, ∃ η1, g (emb x) η m = .ok η1 m ∧ t η1 m = .ok (p x) m ∧ (p x = true → e η1 m = .ok (f x) m)) → acc.length + xs.length ≤ 1000000 → compD g t e η (xs.map emb) m acc = .ok (acc ++ (xs.filter p).map f) m
  | [], acc, _, _ => by simp [compD]
  | x :: xs, acc, h, hl => by
    obtain ⟨η1, h1, h2, h3⟩ := h x List.mem_cons_self
    have hlt : acc.length < sizeLine := size_lt (by simp at hl; omega)
    rw [List.map_cons]
    unfold compD
    simp only [h1, h2, noX_ok, bind_ok]
    cases hp : p x with
    | true =>
      simp only [if_true, h3 hp, noX_ok, bind_ok, hlt]
      rw [comp_filterT emb f p xs (acc ++ [f x]) (fun y hy => h y (List.mem_cons_of_mem _ hy)) (by simp at hl ⊢; omega)]
      simp [hp]
    | false =>
      simp only [Bool.false_eq_true, if_false]
      rw [comp_filterT emb f p xs acc (fun y hy => h y (List.mem_cons_of_mem _ hy)) (by simp at hl ⊢; omega)]
      simp [hp]
/-- a comprehension that draws: of each item something of a sort -/
theorem comp_draw {α : Type} {g : GM} {e : EM} {η : Env'} {m : Mem} {i : Nat} {ds : List D} (emb : α → D) (P : α → Prop) (hf : FlowAt m i) (hl : ds.length ≤ 1000000)
    (h : ∀ d m', d ∈ ds → Flo m m' i → Tri (noX (g d η m')) (fun η1 m1 => Tri (noX (e η1 m1)) (fun y m2 => ∃ a, y = emb a ∧ P a ∧ Flo m m2 i))) :
    Tri (compD g mYes e η ds m []) (fun acc m' => ∃ as : List α, acc = as.map emb ∧ as.length = ds.length ∧ (∀ a ∈ as, P a) ∧ Flo m m' i) := by
  refine comp_inv (fun j m' acc => ∃ as : List α, acc = as.map emb ∧ as.length = j ∧ (∀ a ∈ as, P a) ∧ Flo m m' i) ds ⟨[], rfl, rfl, by simp, Flo.refl hf⟩ ?_
  rintro j d m' acc hd hj ⟨as, rfl, hlen, hP, hfl⟩
  rw [tri_bind]
  refine (h d m' hd hfl).mono fun η1 m1 h1 => ?_
  simp only [ap_yes, noX_ok, bind_ok, if_true]
  rw [tri_bind]
  refine h1.mono fun y m2 ⟨a, ha, hPa, hfl2⟩ => ?_
  subst ha
  rw [List.length_map, hlen, if_pos (size_lt (by omega))]
  exact ⟨as ++ [a], by simp, by simp [hlen], fun b hb => by
    rcases List.mem_append.mp hb with hb | hb
    · exact hP b hb
    · simp at hb; subst hb; exact hPa, hfl2⟩
/-- a loop whose turns bring more into the list in a cell -/
theorem for_draw {α : Type} {g : GM} {body : SM} {η : Env'} {m m0 : Mem} {i j : Nat} {ds : List D} {B : Env' → Mem → Prop} {Rt : D → Mem → Prop} (emb : α → D) (P : α → Prop) (J : Env' → Prop) (h0 : Flo m0 m i) (hj : m[j]? = some (.lst [])) (hJ : J η)
    (h : ∀ d η m' (as : List α), d ∈ ds → J η → Flo m0 m' i → m'[j]? = some (.lst (as.map emb)) → (∀ a ∈ as, P a) → as.length < ds.length → Tri (g d η m') (fun η1 m1 => TriQ (body η1 m1) (fun η2 m2 => J η2 ∧ ∃ a, P a ∧ Flo m0 m2 i ∧ m2[j]? = some (.lst (as.map emb ++ [emb a]))) B (fun _ _ => False) Rt))
    (hB : ∀ η m' (as : List α), J η → Flo m0 m' i → m'[j]? = some (.lst (as.map emb)) → (∀ a ∈ as, P a) → as.length = ds.length → B η m') : TriS (forD g body ds η m) B Rt := by
  refine for_inv (fun k η m' => J η ∧ ∃ as : List α, as.length = k ∧ (∀ a ∈ as, P a) ∧ Flo m0 m' i ∧ m'[j]? = some (.lst (as.map emb))) ds ⟨hJ, [], rfl, by simp, h0, hj⟩ ?_ ?_
  · rintro k d η m' hd ⟨hJ, as, hlen, hP, hfl, hc⟩
    have hk := (List.getElem?_eq_some_iff.mp hd).1
    refine (h d η m' as (List.mem_of_getElem? hd) hJ hfl hc hP (by omega)).mono fun η1 m1 h1 => ?_
    refine h1.mono ?_ (fun _ _ z => z) (fun _ _ z => z.elim) (fun _ _ z => z)
    rintro η2 m2 ⟨hJ2, a, hPa, hfl2, hc2⟩
    refine ⟨hJ2, as ++ [a], by simp [hlen], fun b hb => ?_, hfl2, by simpa using hc2⟩
    rcases List.mem_append.mp hb with hb | hb
    · exact hP b hb
    · simp at hb; subst hb; exact hPa
  · rintro η m' ⟨hJ, as, hlen, hP, hfl, hc⟩
    exact hB η m' as hJ hfl hc hP hlen
end Mir

/-! Mir: mirrors that laws share (printed by share.py). -/
namespace Mir.Y
open PySem PySem.Spec PyProof.Rows L2 Mir
def b__law_flow : SM := (mRet (mLst true (mCons (mCB (bList false) (mCons (mVar 0) mNil)) (mCons (mC (.int 0)) (mCons (mC (.int 0)) (mCons (mC (.int 1)) (mCons (mC (.int 0)) mNil)))))))
def m__law_flow : FM := mFn 1 1 b__law_flow
def b__law_pick_0s2 : SM := (mIfS (mTest (mOp gGe (mVar 2) (mOp gPow (mC (.int 10)) (mC (.int 18))))) (mAsg (mVar 2) (gSubT (mVar 0) (mC (.int 2)))) (mAsg (mOp gMod (mOp (gAdd false) (mOp (gAdd false) (mOp gMulI (mOp gIx (mVar 0) (mC (.int 3))) (mC (.int 40013))) (mOp gMod (mVar 2) (mC (.int 1000003)))) (mC (.int 1))) (mC (.int 2147483647))) (gSubT (mVar 0) (mC (.int 3)))))
def b__law_pick_0s1 : SM := mSeq (mAsg (mOp (gAdd false) (mOp gIx (mVar 0) (mC (.int 1))) (mC (.int 1))) (gSubT (mVar 0) (mC (.int 1)))) b__law_pick_0s2
def b__law_pick_0 : SM := mSeq (mAsg (mOp gIx (mOp gIx (mVar 0) (mC (.int 0))) (mOp gIx (mVar 0) (mC (.int 1)))) (gNm 2)) b__law_pick_0s1
def b__law_pick_1s2 : SM := (mRet (mVar 3))
def b__law_pick_1s1 : SM := mSeq (mAsg (mOp gFdiv (mOp gIx (mVar 0) (mC (.int 2))) (mVar 1)) (gSubT (mVar 0) (mC (.int 2)))) b__law_pick_1s2
def b__law_pick_1 : SM := mSeq (mAsg (mOp gMod (mOp gIx (mVar 0) (mC (.int 2))) (mVar 1)) (gNm 3)) b__law_pick_1s1
def b__law_pick_s4 : SM := (mRet (mOp gMod (mOp gFdiv (mOp gMod (mOp gMulI (mOp (gAdd false) (mOp gMod (mOp gIx (mVar 0) (mC (.int 3))) (mC (.int 65521))) (mC (.int 1))) (mOp (gAdd false) (mOp gFdiv (mOp gIx (mVar 0) (mC (.int 3))) (mC (.int 65521))) (mC (.int 7919)))) (mC (.int 1000003))) (mC (.int 7))) (mVar 1)))
def b__law_pick_s3 : SM := mSeq (mAsg (mOp gMod (mOp (gAdd false) (mOp (gAdd false) (mOp gMulI (mOp gIx (mVar 0) (mC (.int 3))) (mC (.int 48271))) (mC (.int 12820163))) (mOp gIx (mVar 0) (mC (.int 4)))) (mC (.int 2147483647))) (gSubT (mVar 0) (mC (.int 3)))) b__law_pick_s4
def b__law_pick_s2 : SM := mSeq (mAsg (mOp (gAdd false) (mOp gIx (mVar 0) (mC (.int 4))) (mC (.int 1))) (gSubT (mVar 0) (mC (.int 4)))) b__law_pick_s3
def b__law_pick_s1 : SM := mSeq (mIfS (mTest (mOp gGt (mOp gIx (mVar 0) (mC (.int 2))) (mC (.int 0)))) b__law_pick_1 mSkip) b__law_pick_s2
def b__law_pick : SM := mSeq (mIfS (mAnd (mTest (mOp (gEq false) (mOp gIx (mVar 0) (mC (.int 2))) (mC (.int 0)))) (mTest (mOp gLt (mOp gIx (mVar 0) (mC (.int 1))) (mCB bLen (mCons (mOp gIx (mVar 0) (mC (.int 0))) mNil))))) b__law_pick_0 mSkip) b__law_pick_s1
def m__law_pick : FM := mFn 2 4 b__law_pick
def b__law_shuffled_s1 : SM := (mRet (mLc [3] false (mRng1 (mCB bLen (mCons (mVar 1) mNil))) (gNm 3) mYes (mBM "list" gPopAt (mVar 2) (mCons (mCall m__law_pick (mCons (mVar 0) (mCons (mCB bLen (mCons (mVar 2) mNil)) mNil))) mNil))))
def b__law_shuffled : SM := mSeq (mAsg (mCB (bList true) (mCons (mVar 1) mNil)) (gNm 2)) b__law_shuffled_s1
def m__law_shuffled : FM := mFn 2 4 b__law_shuffled
def b__law_word_s3 : SM := (mRet (mVar 2))
def b__law_word_s2 : SM := mSeq (mIfS (mTest (mOp (gIn false) (mVar 2) (mTup (mCons (mC (.str (Str.ofString "deeds"))) (mCons (mC (.str (Str.ofString "room"))) (mCons (mC (.str (Str.ofString "heap"))) (mCons (mC (.str (Str.ofString "map"))) (mCons (mC (.str (Str.ofString "yard"))) mNil)))))))) (mAsg (mOp (gAdd false) (mSl (gSl false) (mVar 2) mNoPart (mPart (mUn gNeg (mC (.int 1))))) (mC (.str (Str.ofString "q")))) (gNm 2)) mSkip) b__law_word_s3
def b__law_word_s1 : SM := mSeq (mAsg (mBM "str" gJoin (mC (.str (Str.ofString ""))) (mCons (mLc [3] false (mRng1 (mOp (gAdd false) (mC (.int 1)) (mCall m__law_pick (mCons (mVar 0) (mCons (mC (.int 6)) mNil))))) (gNm 3) mYes (mOp gIx (mVar 1) (mCall m__law_pick (mCons (mVar 0) (mCons (mC (.int 26)) mNil))))) mNil)) (gNm 2)) b__law_word_s2
def b__law_word : SM := mSeq (mAsg (mC (.str (Str.ofString "abcdefghijklmnopqrstuvwxyz"))) (gNm 1)) b__law_word_s1
def m__law_word : FM := mFn 1 4 b__law_word
def b__law_names_s4 : SM := (mRet (mCB bTuple (mCons (mLc [8] false (mIt (mVar 4)) (gNm 8) mYes (mOp (gAdd false) (mVar 8) (mOp gMulS (mC (.str (Str.ofString "q"))) (mCB bInt (mCons (mOp (gIn false) (mVar 8) (mTup (mCons (mC (.str (Str.ofString "deeds"))) (mCons (mC (.str (Str.ofString "room"))) (mCons (mC (.str (Str.ofString "heap"))) (mCons (mC (.str (Str.ofString "map"))) (mCons (mC (.str (Str.ofString "yard"))) mNil))))))) mNil))))) mNil)))
def b__law_names_s3 : SM := mSeq (mAsg (mCB (bSortedS false) (mCons (mLc [7] false (mRng1 (mVar 1)) (gNm 7) mYes (mOp (gAdd false) (mOp (gAdd false) (mSl (gSl false) (mVar 3) mNoPart (mPart (mVar 5))) (mOp gIx (mVar 2) (mOp gMod (mOp (gAdd false) (mVar 6) (mOp gMulI (mC (.int 7)) (mVar 7))) (mC (.int 26))))) (mSl (gSl false) (mVar 3) (mPart (mVar 5)) mNoPart))) mNil)) (gNm 4)) b__law_names_s4
def b__law_names_s2 : SM := mSeq (mAsg (mTup (mCons (mCall m__law_pick (mCons (mVar 0) (mCons (mOp (gAdd false) (mCB bLen (mCons (mVar 3) mNil)) (mC (.int 1))) mNil))) (mCons (mCall m__law_pick (mCons (mVar 0) (mCons (mC (.int 26)) mNil))) mNil))) (gTp 2 (gsCons (gNm 5) (gsCons (gNm 6) gsNil)))) b__law_names_s3
def b__law_names_s1 : SM := mSeq (mAsg (mBM "str" gJoin (mC (.str (Str.ofString ""))) (mCons (mLc [7] false (mRng1 (mCall m__law_pick (mCons (mVar 0) (mCons (mC (.int 6)) mNil)))) (gNm 7) mYes (mOp gIx (mVar 2) (mCall m__law_pick (mCons (mVar 0) (mCons (mC (.int 26)) mNil))))) mNil)) (gNm 3)) b__law_names_s2
def b__law_names : SM := mSeq (mAsg (mC (.str (Str.ofString "abcdefghijklmnopqrstuvwxyz"))) (gNm 2)) b__law_names_s1
def m__law_names : FM := mFn 2 9 b__law_names
def b__law_is_there : SM := (mRet (mCB (bAll fun bs => bs.all id) (mCons (mLc [3, 4] false (mZip (mVar 0) (mVar 1)) (gTp 2 (gsCons (gNm 3) (gsCons (gNm 4) gsNil))) mYes (mOp gGe (mVar 4) (mOp gIx (mOp gIx (mVar 3) (mC (.int 1))) (mVar 2)))) mNil)))
def m__law_is_there : FM := mFn 3 5 b__law_is_there
def b__law_led : SM := (mRet (mCB bTuple (mCons (mLc [3, 4] false (mZip (mVar 0) (mVar 1)) (gTp 2 (gsCons (gNm 3) (gsCons (gNm 4) gsNil))) mYes (mOp (gAdd false) (mOp gSub (mVar 4) (mOp gIx (mOp gIx (mVar 3) (mC (.int 1))) (mVar 2))) (mOp gIx (mOp gIx (mVar 3) (mC (.int 2))) (mVar 2)))) mNil)))
def m__law_led : FM := mFn 3 5 b__law_led
def b__law_heap_s2 : SM := (mRet (mTup (mCons (mCall m__law_pick (mCons (mVar 0) (mCons (mOp (gAdd false) (mVar 2) (mC (.int 1))) mNil))) (mCons (mVar 3) (mCons (mVar 4) mNil)))))
def b__law_heap_s1 : SM := mSeq (mAsg (mCB bTuple (mCons (mLc [5] false (mRng1 (mVar 1)) (gNm 5) mYes (mCB bMax (mCons (mC (.int 0)) (mCons (mOp gSub (mCall m__law_pick (mCons (mVar 0) (mCons (mOp (gAdd false) (mVar 2) (mC (.int 2))) mNil))) (mC (.int 2))) mNil)))) mNil)) (gNm 4)) b__law_heap_s2
def b__law_heap : SM := mSeq (mAsg (mCB bTuple (mCons (mLc [5] false (mRng1 (mVar 1)) (gNm 5) mYes (mCB bMax (mCons (mC (.int 0)) (mCons (mOp gSub (mCall m__law_pick (mCons (mVar 0) (mCons (mOp (gAdd false) (mVar 2) (mC (.int 2))) mNil))) (mC (.int 2))) mNil)))) mNil)) (gNm 3)) b__law_heap_s1
def m__law_heap : FM := mFn 3 6 b__law_heap
def b__law_more_heaps_s3 : SM := (mRet (mOp (gRepL false) (mLst false (mCons (mVar 2) (mCons (mTup (mCons (mCall m__law_pick (mCons (mVar 0) (mCons (mC (.int 2)) mNil))) (mCons (mOp gIx (mVar 2) (mC (.int 2))) (mCons (mOp gIx (mVar 2) (mC (.int 1))) mNil)))) mNil))) (mCB bInt (mCons (mOp (gEq false) (mVar 3) (mC (.int 1))) mNil))))
def b__law_more_heaps_s2 : SM := mSeq (mAsg (mTup (mCons (mOp (gAdd false) (mC (.int 1)) (mCall m__law_pick (mCons (mVar 0) (mCons (mC (.int 2)) mNil)))) (mCons (mCB bTuple (mCons (mLc [6] false (mIt (mVar 4)) (gNm 6) mYes (mCB bInt (mCons (mOp (gEq false) (mVar 6) (mC (.int 0))) mNil))) mNil)) (mCons (mCB bTuple (mCons (mLc [6] false (mIt (mVar 4)) (gNm 6) mYes (mCB bInt (mCons (mOp (gEq false) (mVar 6) (mC (.int 1))) mNil))) mNil)) mNil)))) (gNm 2)) b__law_more_heaps_s3
def b__law_more_heaps_s1 : SM := mSeq (mIfS (mTest (mOp (gEq false) (mVar 3) (mC (.int 0)))) (mRet (mLst false (mCons (mTup (mCons (mOp (gAdd false) (mC (.int 1)) (mCall m__law_pick (mCons (mVar 0) (mCons (mC (.int 3)) mNil)))) (mCons (mOp gRepT (mTup (mCons (mC (.int 1)) mNil)) (mVar 1)) (mCons (mCB bTuple (mCons (mLc [6] false (mIt (mVar 4)) (gNm 6) mYes (mCB bInt (mCons (mOp (gEq false) (mVar 6) (mC (.int 0))) mNil))) mNil)) mNil)))) mNil))) mSkip) b__law_more_heaps_s2
def b__law_more_heaps : SM := mSeq (mPar 3 4 (mCons (mCall m__law_pick (mCons (mVar 0) (mCons (mC (.int 3)) mNil))) (mCons (mLc [5] false (mRng1 (mVar 1)) (gNm 5) mYes (mCall m__law_pick (mCons (mVar 0) (mCons (mC (.int 4)) mNil)))) mNil))) b__law_more_heaps_s1
def m__law_more_heaps : FM := mFn 2 7 b__law_more_heaps
def b__law_any_yard_s3 : SM := (mRet (mTup (mCons (mCall m__law_names (mCons (mVar 0) (mCons (mVar 2) mNil))) (mCons (mCB bTuple (mCons (mCall m__law_shuffled (mCons (mVar 0) (mCons (mOp (gAdd false) (mVar 3) (mCall m__law_more_heaps (mCons (mVar 0) (mCons (mVar 2) mNil)))) mNil))) mNil)) mNil))))
def b__law_any_yard_s2 : SM := mSeq (mFor (mRng1 (mCall m__law_pick (mCons (mVar 0) (mCons (mC (.int 4)) mNil)))) (gNm 4) (mDrop (mBM "list" gAppend (mVar 3) (mCons (mCall m__law_heap (mCons (mVar 0) (mCons (mVar 2) (mCons (mOp gIx (mLst false (mCons (mC (.int 2)) (mCons (mC (.int 3)) (mCons (mC (.int 5)) mNil)))) (mCall m__law_pick (mCons (mVar 0) (mCons (mC (.int 3)) mNil)))) mNil)))) mNil)))) b__law_any_yard_s3
def b__law_any_yard_s1 : SM := mSeq (mAsg (mLst true mNil) (gNm 3)) b__law_any_yard_s2
def b__law_any_yard : SM := mSeq (mAsg (mOp (gAdd false) (mC (.int 1)) (mCall m__law_pick (mCons (mVar 0) (mCons (mVar 1) mNil)))) (gNm 2)) b__law_any_yard_s1
def m__law_any_yard : FM := mFn 2 5 b__law_any_yard
def b__law_alike_0s2 (rc : FM) : SM := (mRet (mCB (bAll fun bs => bs.all id) (mCons (mLc [2, 3] false (mZip (mVar 0) (mVar 1)) (gTp 2 (gsCons (gNm 2) (gsCons (gNm 3) gsNil))) mYes (mCall rc (mCons (mVar 2) (mCons (mVar 3) mNil)))) mNil)))
def b__law_alike_0s1 (rc : FM) : SM := mSeq (mIfS (mTest (mOp (gEq true) (mCB bLen (mCons (mVar 0) mNil)) (mCB bLen (mCons (mVar 1) mNil)))) (mRet (mC (.bl false))) mSkip) (b__law_alike_0s2 rc)
def b__law_alike_0 (rc : FM) : SM := mSeq (mIfS (mOr (mTest (mOp (gEq true) (mIsi "list" (mVar 0)) (mIsi "list" (mVar 1)))) (mTest (mOp (gEq true) (mIsi "tuple" (mVar 0)) (mIsi "tuple" (mVar 1))))) (mRet (mC (.bl false))) mSkip) (b__law_alike_0s1 rc)
def b__law_alike_s2 (rc : FM) : SM := (mRet (mAndV (mIsi "int" (mVar 0)) (mAndV (mOp (gEq false) (mIsi "bool" (mVar 0)) (mIsi "bool" (mVar 1))) (mOp (gEq false) (mVar 0) (mVar 1)))))
def b__law_alike_s1 (rc : FM) : SM := mSeq (mIfS (mOr (mTru (mIsi "str" (mVar 1))) (mTest (mOp (gIs false) (mVar 1) (mC .non)))) (mRet (mAndV (mOp (gEq false) (mIsi "str" (mVar 0)) (mIsi "str" (mVar 1))) (mOp (gEq false) (mVar 0) (mVar 1)))) mSkip) (b__law_alike_s2 rc)
def b__law_alike (rc : FM) : SM := mSeq (mIfS (mTru (mIsiT ["list", "tuple"] (mVar 1))) (b__law_alike_0 rc) mSkip) (b__law_alike_s1 rc)
def m__law_alike : Nat → FM
  | 0 => mFn 2 4 mStk
  | n + 1 => mFn 2 4 (b__law_alike (m__law_alike n))
def b__law_reordered_s3 : SM := (mRet (mTup (mCons (mOp gIx (mVar 1) (mC (.int 0))) (mCons (mCB bTuple (mCons (mVar 3) mNil)) mNil))))
def b__law_reordered_s2 : SM := mSeq (mFor (mIt (mVar 2)) (gNm 4) (mDrop (mBM "list" gAppend (mVar 3) (mCons (mCB bTuple (mCons (mLc [5] false (mIt (mOp gIx (mOp gIx (mVar 1) (mC (.int 1))) (mVar 4))) (gNm 5) mYes (mIf (mTest (mOp (gIs false) (mVar 5) (mC .non))) (mVar 5) (mBM "list" gIndexL (mVar 2) (mCons (mVar 5) mNil)))) mNil)) mNil)))) b__law_reordered_s3
def b__law_reordered_s1 : SM := mSeq (mAsg (mLst true mNil) (gNm 3)) b__law_reordered_s2
def b__law_reordered : SM := mSeq (mAsg (mOp (gAdd false) (mLst false (mCons (mC (.int 0)) mNil)) (mCall m__law_shuffled (mCons (mVar 0) (mCons (mListRg2 false (mC (.int 1)) (mCB bLen (mCons (mOp gIx (mVar 1) (mC (.int 1))) mNil))) mNil)))) (gNm 2)) b__law_reordered_s1
def m__law_reordered : FM := mFn 2 6 b__law_reordered
def b__law_any_map_0s3 : SM := (mAsg (mVar 6) (gSubT (mOp gIx (mVar 5) (mVar 8)) (mVar 9)))
def b__law_any_map_0s2 : SM := mSeq (mAsg (mOp gIx (mVar 10) (mCall m__law_pick (mCons (mVar 0) (mCons (mCB bLen (mCons (mVar 10) mNil)) mNil)))) (gTp 2 (gsCons (gNm 8) (gsCons (gNm 9) gsNil)))) b__law_any_map_0s3
def b__law_any_map_0s1 : SM := mSeq (mFor (mRng1 (mVar 6)) (gNm 8) (mDrop (mBM "list" gExtend (mVar 10) (mCons (mLc [9] false (mRng1 (mVar 4)) (gNm 9) (mTest (mOp (gIs false) (mOp gIx (mOp gIx (mVar 5) (mVar 8)) (mVar 9)) (mC .non))) (mTup (mCons (mVar 8) (mCons (mVar 9) mNil)))) mNil)))) b__law_any_map_0s2
def b__law_any_map_0 : SM := mSeq (mAsg (mLst true mNil) (gNm 10)) b__law_any_map_0s1
def b__law_any_map_s8 : SM := (mRet (mCall m__law_reordered (mCons (mVar 0) (mCons (mTup (mCons (mCall m__law_names (mCons (mVar 0) (mCons (mVar 4) mNil))) (mCons (mCB bTuple (mCons (mLc [11] false (mIt (mVar 5)) (gNm 11) mYes (mCB bTuple (mCons (mVar 11) mNil))) mNil)) mNil))) mNil))))
def b__law_any_map_s7 : SM := mSeq (mFor (mRng1 (mVar 4)) (gNm 9) (mIfS (mTru (mCB (bAll fun bs => bs.all id) (mCons (mLc [11] false (mIt (mVar 5)) (gNm 11) mYes (mOp (gIs false) (mOp gIx (mVar 11) (mVar 9)) (mC .non))) mNil))) (mAsg (mCall m__law_pick (mCons (mVar 0) (mCons (mVar 3) mNil))) (gSubT (mOp gIx (mVar 5) (mCall m__law_pick (mCons (mVar 0) (mCons (mVar 3) mNil)))) (mVar 9))) mSkip)) b__law_any_map_s8
def b__law_any_map_s6 : SM := mSeq (mFor (mRng1 (mVar 3)) (gNm 8) (mFor (mRng1 (mVar 4)) (gNm 9) (mIfS (mAnd (mTest (mOp (gIs false) (mOp gIx (mOp gIx (mVar 5) (mVar 8)) (mVar 9)) (mC .non))) (mTest (mOp (gEq false) (mCall m__law_pick (mCons (mVar 0) (mCons (mVar 7) mNil))) (mC (.int 0))))) (mAsg (mCall m__law_pick (mCons (mVar 0) (mCons (mVar 3) mNil))) (gSubT (mOp gIx (mVar 5) (mVar 8)) (mVar 9))) mSkip))) b__law_any_map_s7
def b__law_any_map_s5 : SM := mSeq (mAsg (mOp (gAdd false) (mC (.int 2)) (mCall m__law_pick (mCons (mVar 0) (mCons (mC (.int 4)) mNil)))) (gNm 7)) b__law_any_map_s6
def b__law_any_map_s4 : SM := mSeq (mFor (mRng2 (mC (.int 1)) (mVar 3)) (gNm 6) b__law_any_map_0) b__law_any_map_s5
def b__law_any_map_s3 : SM := mSeq (mAsg (mLc [8] false (mRng1 (mVar 3)) (gNm 8) mYes (mOp (gRepL true) (mLst false (mCons (mC .non) mNil)) (mVar 4))) (gNm 5)) b__law_any_map_s4
def b__law_any_map_s2 : SM := mSeq (mIfS (mTest (mOp gGt (mVar 3) (mC (.int 1)))) (mAsg (mCB bMax (mCons (mC (.int 1)) (mCons (mVar 4) mNil))) (gNm 4)) mSkip) b__law_any_map_s3
def b__law_any_map_s1 : SM := mSeq (mAsg (mCall m__law_pick (mCons (mVar 0) (mCons (mOp (gAdd false) (mVar 2) (mC (.int 1))) mNil))) (gNm 4)) b__law_any_map_s2
def b__law_any_map : SM := mSeq (mAsg (mOp (gAdd false) (mC (.int 1)) (mCall m__law_pick (mCons (mVar 0) (mCons (mVar 1) mNil)))) (gNm 3)) b__law_any_map_s1
def m__law_any_map : FM := mFn 3 12 b__law_any_map
def b__law_walked_0s2 : SM := (mAsg (mBM "list" gIndexL (mVar 2) (mCons (mVar 9) mNil)) (gSubT (mVar 6) (mVar 7)))
def b__law_walked_0s1 : SM := mSeq (mIfS (mTest (mOp (gIn true) (mVar 9) (mVar 2))) (mDrop (mBM "list" gAppend (mVar 2) (mCons (mVar 9) mNil))) mSkip) b__law_walked_0s2
def b__law_walked_0 : SM := mSeq (mAsg (mCB bTuple (mCons (mLc [10, 11] false (mIt (mVar 8)) (gTp 2 (gsCons (gNm 10) (gsCons (gNm 11) gsNil))) mYes (mOp (gAdd false) (mOp gSub (mVar 11) (mOp gIx (mOp gIx (mVar 10) (mC (.int 1))) (mVar 7))) (mOp gIx (mOp gIx (mVar 10) (mC (.int 2))) (mVar 7)))) mNil)) (gNm 9)) b__law_walked_0s1
def b__law_walked_1s2 : SM := (mIfS (mTru (mCB (bAll fun bs => bs.all id) (mCons (mLc [10, 11] false (mIt (mVar 8)) (gTp 2 (gsCons (gNm 10) (gsCons (gNm 11) gsNil))) mYes (mOp gGe (mVar 11) (mOp gIx (mOp gIx (mVar 10) (mC (.int 1))) (mVar 7)))) mNil))) b__law_walked_0 mSkip)
def b__law_walked_1s1 : SM := mSeq (mAsg (mListZip false (mVar 5) (mOp gIx (mVar 2) (mCB bLen (mCons (mVar 3) mNil)))) (gNm 8)) b__law_walked_1s2
def b__law_walked_1 : SM := mSeq (mDrop (mBM "list" gAppend (mVar 6) (mCons (mC .non) mNil))) b__law_walked_1s1
def b__law_walked_2s2 : SM := (mDrop (mBM "list" gAppend (mVar 3) (mCons (mCB bTuple (mCons (mVar 6) mNil)) mNil)))
def b__law_walked_2s1 : SM := mSeq (mFor (mRng1 (mCB bLen (mCons (mVar 4) mNil))) (gNm 7) b__law_walked_1) b__law_walked_2s2
def b__law_walked_2 : SM := mSeq (mAsg (mLst true mNil) (gNm 6)) b__law_walked_2s1
def b__law_walked_s4 : SM := (mRet (mOp gIx (mLst false (mCons (mTup (mCons (mCB bTuple (mCons (mVar 3) mNil)) (mCons (mVar 2) mNil))) (mCons (mC .non) mNil))) (mCB bInt (mCons (mOp gGt (mCB bLen (mCons (mVar 2) mNil)) (mVar 1)) mNil))))
def b__law_walked_s3 : SM := mSeq (mWhile (mTest (mChain gLt gLe (mCB bLen (mCons (mVar 3) mNil)) (mCB bLen (mCons (mVar 2) mNil)) (mVar 1))) b__law_walked_2) b__law_walked_s4
def b__law_walked_s2 : SM := mSeq (mAsg (mLst true mNil) (gNm 3)) b__law_walked_s3
def b__law_walked_s1 : SM := mSeq (mAsg (mLst true (mCons (mCB bTuple (mCons (mLc [10] false (mIt (mVar 5)) (gNm 10) mYes (mOp gIx (mVar 10) (mC (.int 0)))) mNil)) mNil)) (gNm 2)) b__law_walked_s2
def b__law_walked : SM := mSeq (mAsg (mVar 0) (gTp 2 (gsCons (gNm 4) (gsCons (gNm 5) gsNil)))) b__law_walked_s1
def m__law_walked : FM := mFn 2 12 b__law_walked
def b__law_map_of_s4 : SM := (mRet (mTup (mCons (mCB bTuple (mCons (mLc [5] false (mIt (mVar 4)) (gNm 5) mYes (mOp gIx (mOp gIx (mVar 0) (mC (.int 0))) (mVar 5))) mNil)) (mCons (mCB bTuple (mCons (mLc [6] false (mIt (mVar 3)) (gNm 6) mYes (mCB bTuple (mCons (mLc [5] false (mIt (mVar 4)) (gNm 5) mYes (mOp gIx (mVar 6) (mVar 5))) mNil))) mNil)) mNil))))
def b__law_map_of_s3 : SM := mSeq (mAsg (mLc [5] false (mRng1 (mCB bLen (mCons (mOp gIx (mVar 0) (mC (.int 0))) mNil))) (gNm 5) (mTru (mCB (bAll fun bs => bs.any id) (mCons (mLc [6] false (mIt (mVar 3)) (gNm 6) mYes (mOp (gIs true) (mOp gIx (mVar 6) (mVar 5)) (mC .non))) mNil))) (mVar 5)) (gNm 4)) b__law_map_of_s4
def b__law_map_of_s2 : SM := mSeq (mAsg (mOp gIx (mVar 2) (mC (.int 0))) (gNm 3)) b__law_map_of_s3
def b__law_map_of_s1 : SM := mSeq (mIfS (mTest (mOp (gIs false) (mVar 2) (mC .non))) (mRet (mC .non)) mSkip) b__law_map_of_s2
def b__law_map_of : SM := mSeq (mAsg (mCall m__law_walked (mCons (mVar 0) (mCons (mVar 1) mNil))) (gNm 2)) b__law_map_of_s1
def m__law_map_of : FM := mFn 2 7 b__law_map_of
def b__law_is_map_0s1 : SM := (mAsg (mOp (gAdd false) (mVar 2) (mC (.int 1))) (gNm 2))
def b__law_is_map_0 : SM := mSeq (mFor (mIt (mOp gIx (mOp gIx (mVar 0) (mC (.int 1))) (mOp gIx (mVar 1) (mVar 2)))) (gNm 4) (mIfS (mAnd (mTest (mOp (gIs true) (mVar 4) (mC .non))) (mTest (mOp (gIn true) (mVar 4) (mVar 1)))) (mDrop (mBM "list" gAppend (mVar 1) (mCons (mVar 4) mNil))) mSkip)) b__law_is_map_0s1
def b__law_is_map_s4 : SM := (mRet (mAndV (mOp (gEq false) (mCB bLen (mCons (mVar 1) mNil)) (mCB bLen (mCons (mOp gIx (mVar 0) (mC (.int 1))) mNil))) (mOp (gEq false) (mCB bLen (mCons (mVar 3) mNil)) (mC (.int 0)))))
def b__law_is_map_s3 : SM := mSeq (mAsg (mLc [5] false (mRng1 (mCB bLen (mCons (mOp gIx (mVar 0) (mC (.int 0))) mNil))) (gNm 5) (mTru (mCB (bAll fun bs => bs.all id) (mCons (mLc [6] false (mIt (mOp gIx (mVar 0) (mC (.int 1)))) (gNm 6) mYes (mOp (gIs false) (mOp gIx (mVar 6) (mVar 5)) (mC .non))) mNil))) (mVar 5)) (gNm 3)) b__law_is_map_s4
def b__law_is_map_s2 : SM := mSeq (mWhile (mTest (mOp gLt (mVar 2) (mCB bLen (mCons (mVar 1) mNil)))) b__law_is_map_0) b__law_is_map_s3
def b__law_is_map_s1 : SM := mSeq (mAsg (mC (.int 0)) (gNm 2)) b__law_is_map_s2
def b__law_is_map : SM := mSeq (mAsg (mLst true (mCons (mC (.int 0)) mNil)) (gNm 1)) b__law_is_map_s1
def m__law_is_map : FM := mFn 1 7 b__law_is_map
def b__law_marred_s6 : SM := (mRet (mOp gIx (mLst false (mCons (mVar 1) (mCons (mVar 4) mNil))) (mCB bInt (mCons (mCall m__law_is_map (mCons (mVar 4) mNil)) mNil))))
def b__law_marred_s5 : SM := mSeq (mAsg (mTup (mCons (mOp gIx (mVar 1) (mC (.int 0))) (mCons (mOp (gAdd false) (mOp (gAdd false) (mSl (gSl false) (mOp gIx (mVar 1) (mC (.int 1))) mNoPart (mPart (mVar 5))) (mTup (mCons (mCB bTuple (mCons (mVar 3) mNil)) mNil))) (mSl (gSl false) (mOp gIx (mVar 1) (mC (.int 1))) (mPart (mOp (gAdd false) (mVar 5) (mC (.int 1)))) mNoPart)) mNil))) (gNm 4)) b__law_marred_s6
def b__law_marred_s4 : SM := mSeq (mAsg (mOp gIx (mLst false (mCons (mVar 2) (mCons (mC .non) mNil))) (mCB bInt (mCons (mOp (gEq false) (mVar 2) (mCB bLen (mCons (mOp gIx (mVar 1) (mC (.int 1))) mNil))) mNil))) (gSubT (mVar 3) (mVar 6))) b__law_marred_s5
def b__law_marred_s3 : SM := mSeq (mAsg (mCB (bList true) (mCons (mOp gIx (mOp gIx (mVar 1) (mC (.int 1))) (mVar 5)) mNil)) (gNm 3)) b__law_marred_s4
def b__law_marred_s2 : SM := mSeq (mAsg (mCall m__law_pick (mCons (mVar 0) (mCons (mOp (gAdd false) (mCB bLen (mCons (mOp gIx (mVar 1) (mC (.int 1))) mNil)) (mC (.int 1))) mNil))) (gNm 2)) b__law_marred_s3
def b__law_marred_s1 : SM := mSeq (mPar 5 6 (mCons (mCall m__law_pick (mCons (mVar 0) (mCons (mCB bLen (mCons (mOp gIx (mVar 1) (mC (.int 1))) mNil)) mNil))) (mCons (mCall m__law_pick (mCons (mVar 0) (mCons (mCB bLen (mCons (mOp gIx (mVar 1) (mC (.int 0))) mNil)) mNil))) mNil))) b__law_marred_s2
def b__law_marred : SM := mSeq (mIfS (mTest (mOp (gEq false) (mCB bLen (mCons (mOp gIx (mVar 1) (mC (.int 0))) mNil)) (mC (.int 0)))) (mRet (mVar 1)) mSkip) b__law_marred_s1
def m__law_marred : FM := mFn 2 7 b__law_marred
def b__law_two_rows_0s1 : SM := (mAsg (mVar 5) (gNm 6))
def b__law_two_rows_0 : SM := mSeq (mAsg (mVar 5) (gSubT (mOp gIx (mVar 4) (mVar 6)) (mC (.int 1)))) b__law_two_rows_0s1
def b__law_two_rows_s7 : SM := (mRet (mCall m__law_reordered (mCons (mVar 0) (mCons (mTup (mCons (mCall m__law_names (mCons (mVar 0) (mCons (mC (.int 2)) mNil))) (mCons (mCB bTuple (mCons (mLc [7] false (mIt (mVar 4)) (gNm 7) mYes (mCB bTuple (mCons (mVar 7) mNil))) mNil)) mNil))) mNil))))
def b__law_two_rows_s6 : SM := mSeq (mIfS (mTest (mOp (gEq false) (mCall m__law_pick (mCons (mVar 0) (mCons (mC (.int 3)) mNil))) (mC (.int 0)))) (mAsg (mC (.int 0)) (gSubT (mOp gIx (mVar 4) (mOp gSub (mVar 3) (mC (.int 1)))) (mCall m__law_pick (mCons (mVar 0) (mCons (mC (.int 2)) mNil))))) mSkip) b__law_two_rows_s7
def b__law_two_rows_s5 : SM := mSeq (mFor (mRng2 (mVar 2) (mVar 3)) (gNm 5) b__law_two_rows_0) b__law_two_rows_s6
def b__law_two_rows_s4 : SM := mSeq (mAsg (mC (.int 0)) (gNm 6)) b__law_two_rows_s5
def b__law_two_rows_s3 : SM := mSeq (mFor (mRng1 (mVar 2)) (gNm 5) (mAsg (mOp gIx (mLst false (mCons (mOp (gAdd false) (mVar 5) (mC (.int 1))) (mCons (mOp gSub (mVar 3) (mC (.int 1))) mNil))) (mCB bInt (mCons (mOp (gEq false) (mOp (gAdd false) (mVar 5) (mC (.int 1))) (mVar 2)) mNil))) (gSubT (mOp gIx (mVar 4) (mVar 5)) (mC (.int 0))))) b__law_two_rows_s4
def b__law_two_rows_s2 : SM := mSeq (mAsg (mLc [5] false (mRng1 (mVar 3)) (gNm 5) mYes (mLst true (mCons (mC .non) (mCons (mC .non) mNil)))) (gNm 4)) b__law_two_rows_s3
def b__law_two_rows_s1 : SM := mSeq (mAsg (mOp (gAdd false) (mOp (gAdd false) (mVar 2) (mC (.int 1))) (mCall m__law_pick (mCons (mVar 0) (mCons (mCB bMin (mCons (mC (.int 4)) (mCons (mOp gSub (mVar 1) (mVar 2)) mNil))) mNil)))) (gNm 3)) b__law_two_rows_s2
def b__law_two_rows : SM := mSeq (mAsg (mOp (gAdd false) (mC (.int 1)) (mCall m__law_pick (mCons (mVar 0) (mCons (mCB bMin (mCons (mC (.int 4)) (mCons (mOp gSub (mVar 1) (mC (.int 2))) mNil))) mNil)))) (gNm 2)) b__law_two_rows_s1
def m__law_two_rows : FM := mFn 2 8 b__law_two_rows
def b__law_map_0s1 : SM := (mRet (mOp gIx (mLst false (mCons (mVar 5) (mCons (mCall m__law_marred (mCons (mVar 0) (mCons (mVar 5) mNil))) mNil))) (mCB bInt (mCons (mOp (gEq false) (mVar 3) (mC (.int 3))) mNil))))
def b__law_map_0 : SM := mSeq (mAsg (mCall m__law_reordered (mCons (mVar 0) (mCons (mVar 5) mNil))) (gNm 5)) b__law_map_0s1
def b__law_map_1s1 : SM := (mIfS (mAnd (mTest (mOp gGt (mVar 3) (mC (.int 0)))) (mAnd (mTest (mOp (gIs true) (mVar 5) (mC .non))) (mTest (mOp gGt (mCB bLen (mCons (mOp gIx (mVar 5) (mC (.int 1))) mNil)) (mC (.int 1)))))) b__law_map_0 mSkip)
def b__law_map_1 : SM := mSeq (mAsg (mCall m__law_map_of (mCons (mCall m__law_any_yard (mCons (mVar 0) (mCons (mVar 2) mNil))) (mCons (mVar 1) mNil))) (gNm 5)) b__law_map_1s1
def b__law_map_s3 : SM := (mRet (mCall m__law_any_map (mCons (mVar 0) (mCons (mVar 1) (mCons (mVar 2) mNil)))))
def b__law_map_s2 : SM := mSeq (mIfS (mTest (mOp (gEq false) (mCall m__law_pick (mCons (mVar 0) (mCons (mC (.int 2)) mNil))) (mC (.int 0)))) (mRet (mCall m__law_two_rows (mCons (mVar 0) (mCons (mVar 1) mNil)))) mSkip) b__law_map_s3
def b__law_map_s1 : SM := mSeq (mFor (mRng1 (mC (.int 3))) (gNm 4) b__law_map_1) b__law_map_s2
def b__law_map : SM := mSeq (mAsg (mCall m__law_pick (mCons (mVar 0) (mCons (mC (.int 4)) mNil))) (gNm 3)) b__law_map_s1
def m__law_map : FM := mFn 3 6 b__law_map
def b__law_ways_s2 : SM := (mRet (mVar 1))
def b__law_ways_s1 : SM := mSeq (mFor (mEnum 0 (mOp gIx (mVar 0) (mC (.int 1)))) (gTp 2 (gsCons (gNm 2) (gsCons (gNm 3) gsNil))) (mDrop (mBM "list" gExtend (mVar 1) (mCons (mLc [4, 5] false (mEnum 0 (mVar 3)) (gTp 2 (gsCons (gNm 4) (gsCons (gNm 5) gsNil))) (mTest (mOp (gIs true) (mVar 5) (mC .non))) (mTup (mCons (mVar 2) (mCons (mVar 4) (mCons (mVar 5) mNil))))) mNil)))) b__law_ways_s2
def b__law_ways : SM := mSeq (mAsg (mLst true mNil) (gNm 1)) b__law_ways_s1
def m__law_ways : FM := mFn 1 6 b__law_ways
def b_ways_of_s2 : SM := (mRet (mVar 1))
def b_ways_of_s1 : SM := mSeq (mFor (mEnum 0 (mOp gIx (mVar 0) (mC (.int 1)))) (gTp 2 (gsCons (gNm 2) (gsCons (gNm 3) gsNil))) (mDrop (mBM "list" gExtend (mVar 1) (mCons (mLc [4, 5] false (mEnum 0 (mVar 3)) (gTp 2 (gsCons (gNm 4) (gsCons (gNm 5) gsNil))) (mTest (mOp (gIs true) (mVar 5) (mC .non))) (mTup (mCons (mVar 2) (mCons (mVar 4) (mCons (mVar 5) mNil))))) mNil)))) b_ways_of_s2
def b_ways_of : SM := mSeq (mAsg (mLst true mNil) (gNm 1)) b_ways_of_s1
def m_ways_of : FM := mFn 1 6 b_ways_of
def b__law_row_0s1 : SM := (mAsg (mCB bMax (mCons (mC (.int 0)) (mCons (mOp gIx (mLst false (mCons (mVar 4) (mCons (mOp gIx (mOp gIx (mOp gIx (mVar 1) (mC (.int 1))) (mVar 4)) (mVar 7)) mNil))) (mCB bInt (mCons (mOp (gIn false) (mVar 7) (mVar 6)) mNil))) mNil))) (gNm 4))
def b__law_row_0 : SM := mSeq (mDrop (mBM "list" gAppend (mVar 3) (mCons (mOp gIx (mOp gIx (mVar 1) (mC (.int 0))) (mVar 7)) mNil))) b__law_row_0s1
def b__law_row_1s3 : SM := (mIfS (mTest (mOp gGt (mCB bLen (mCons (mOp gIx (mVar 1) (mC (.int 0))) mNil)) (mC (.int 0)))) b__law_row_0 mSkip)
def b__law_row_1s2 : SM := mSeq (mIfS (mAnd (mTest (mOp gGt (mCB bLen (mCons (mVar 6) mNil)) (mC (.int 0)))) (mTest (mOp gGt (mCall m__law_pick (mCons (mVar 0) (mCons (mC (.int 6)) mNil))) (mC (.int 0))))) (mAsg (mOp gIx (mVar 6) (mCall m__law_pick (mCons (mVar 0) (mCons (mCB bLen (mCons (mVar 6) mNil)) mNil)))) (gNm 7)) mSkip) b__law_row_1s3
def b__law_row_1s1 : SM := mSeq (mAsg (mCall m__law_pick (mCons (mVar 0) (mCons (mCB bMax (mCons (mC (.int 1)) (mCons (mCB bLen (mCons (mOp gIx (mVar 1) (mC (.int 0))) mNil)) mNil))) mNil))) (gNm 7)) b__law_row_1s2
def b__law_row_1 : SM := mSeq (mAsg (mLc [7, 8] false (mEnum 0 (mOp gIx (mOp gIx (mVar 1) (mC (.int 1))) (mVar 4))) (gTp 2 (gsCons (gNm 7) (gsCons (gNm 8) gsNil))) (mTest (mOp (gIs true) (mVar 8) (mC .non))) (mVar 7)) (gNm 6)) b__law_row_1s1
def b__law_row_s3 : SM := (mRet (mCB bTuple (mCons (mVar 3) mNil)))
def b__law_row_s2 : SM := mSeq (mFor (mRng1 (mCall m__law_pick (mCons (mVar 0) (mCons (mOp (gAdd false) (mVar 2) (mC (.int 1))) mNil)))) (gNm 5) b__law_row_1) b__law_row_s3
def b__law_row_s1 : SM := mSeq (mAsg (mC (.int 0)) (gNm 4)) b__law_row_s2
def b__law_row : SM := mSeq (mAsg (mLst true mNil) (gNm 3)) b__law_row_s1
def m__law_row : FM := mFn 3 9 b__law_row
end Mir.Y

/-! Mir: `is True`. -/
namespace Mir
open PySem PySem.Spec PyProof.Rows L2
section
variable {X : Cx} {E : XK}
end
end Mir

/-! Mir, dicts: keys that are ints or texts (dK), keys that are tuples of ints (dT). -/
namespace Mir
open PySem PySem.Spec PyProof.Rows L2

def keyD : D → Option Key
  | .int i => some (.inl i)
  | .str x => some (.inr x)
  | _ => none
section
variable {κ : Type} [DecidableEq κ]
def valD (kvs : List (κ × D)) (k : κ) : Option D := (kvs.find? fun kv => decide (kv.1 = k)).map (·.2)
def hasD (kvs : List (κ × D)) (k : κ) : Bool := kvs.any fun kv => decide (kv.1 = k)
def putD (kvs : List (κ × D)) (k : κ) (v : D) : List (κ × D) := if hasD kvs k = true then kvs.map (fun kv => if kv.1 = k then (kv.1, v) else kv) else kvs ++ [(k, v)]
end
/-! ### entries -/
theorem paired_map {α β γ δ : Type} {F : α → β → Prop} {G : γ → δ → Prop} {f : α → γ} {g : β → δ} (h : ∀ a b, F a b → G (f a) (g b)) : ∀ {xs : List α} {ys : List β}, Paired F xs ys → Paired G (xs.map f) (ys.map g)
  | _, _, .nil => .nil
  | _, _, .cons r t => .cons (h _ _ r) (paired_map h t)
theorem paired_app {α β : Type} {F : α → β → Prop} : ∀ {xs : List α} {ys : List β} {x : α} {y : β}, Paired F xs ys → F x y → Paired F (xs ++ [x]) (ys ++ [y])
  | _, _, _, _, .nil, h => .cons h .nil
  | _, _, _, _, .cons r t, h => .cons r (paired_app t h)
section
variable {κ : Type} [DecidableEq κ] {K : PySem.W.Frag} {W : Wd} {H : Hp}
theorem valD_rep : ∀ {kvs : List (κ × D)} {us : List (κ × V)}, us.map (·.1) = kvs.map (·.1) → Reps K W H (kvs.map (·.2)) (us.map (·.2)) → ∀ k, match valD kvs k with
    | some d => ∃ v, valV us k = some v ∧ Rep K W H d v
    | none => valV us k = none
  | [], us, h, r, k => by
    cases us with
    | nil => rfl
    | cons u us => cases h
  | kv :: kvs, us, h, r, k => by
    cases us with
    | nil => cases h
    | cons u us =>
      rw [List.map_cons, List.map_cons] at h
      injection h with h1 h2
      obtain ⟨v, t, e, r1, r2⟩ := r.cons'
      rw [List.map_cons] at e
      injection e with e1 e2
      subst e1 e2
      by_cases hk : kv.1 = k
      · have : valD (kv :: kvs) k = some kv.2 := by simp [valD, List.find?_cons, hk]
        rw [this]
        exact ⟨u.2, valV_pos (h1.trans hk), r1⟩
      · have : valD (kv :: kvs) k = valD kvs k := by simp [valD, List.find?_cons, hk]
        rw [this, valV_neg (fun e => hk (h1 ▸ e))]
        exact valD_rep h2 r2 k
theorem has_keys {α : Type} : ∀ {kvs : List (κ × D)} {us : List (κ × α)}, us.map (·.1) = kvs.map (·.1) → ∀ k, (us.any fun kv => decide (kv.1 = k)) = hasD kvs k
  | [], us, h, k => by
    cases us with
    | nil => rfl
    | cons u us => cases h
  | kv :: kvs, us, h, k => by
    cases us with
    | nil => cases h
    | cons u us =>
      rw [List.map_cons, List.map_cons] at h
      injection h with h1 h2
      unfold hasD
      rw [List.any_cons, List.any_cons, h1, has_keys h2 k]
      rfl
theorem repl_keys {α : Type} {f : κ × α → κ × α} (hf : ∀ x, (f x).1 = x.1) (us : List (κ × α)) : (us.map f).map (·.1) = us.map (·.1) := by
  rw [List.map_map]
  exact List.map_congr_left fun x _ => hf x
theorem repl_reps {k : κ} {d : D} {v : V} (rd : Rep K W H d v) : ∀ {kvs : List (κ × D)} {us : List (κ × V)}, us.map (·.1) = kvs.map (·.1) → Reps K W H (kvs.map (·.2)) (us.map (·.2)) →
    Reps K W H ((kvs.map fun kv => if kv.1 = k then (kv.1, d) else kv).map (·.2)) ((us.map fun kv => if kv.1 = k then (kv.1, v) else kv).map (·.2))
  | [], us, h, r => by
    cases us with
    | nil => exact reps_nil
    | cons u us => cases h
  | kv :: kvs, us, h, r => by
    cases us with
    | nil => cases h
    | cons u us =>
      rw [List.map_cons, List.map_cons] at h
      injection h with h1 h2
      obtain ⟨v', t, e, r1, r2⟩ := r.cons'
      rw [List.map_cons] at e
      injection e with e1 e2
      subst e1 e2
      simp only [List.map_cons]
      refine reps_cons ?_ (repl_reps rd h2 r2)
      rw [h1]
      split
      · exact rd
      · exact r1
theorem put_reps {kvs : List (κ × D)} {us : List (κ × V)} (h : us.map (·.1) = kvs.map (·.1)) (r : Reps K W H (kvs.map (·.2)) (us.map (·.2))) (k : κ) {d : D} {v : V} (rd : Rep K W H d v) : Reps K W H ((putD kvs k d).map (·.2)) ((putK us k v).map (·.2)) := by
  unfold putK putD
  rw [has_keys h]
  split
  · exact repl_reps rd h r
  · rw [List.map_append, List.map_append]
    exact r.append (reps_one rd)
end
theorem keyD_rep {K : PySem.W.Frag} {W : Wd} {H : Hp} {y : D} {v : V} {k : Key} (r : Rep K W H y v) (h : keyD y = some k) : v = kV k := by
  cases y <;> cases h
  · exact r.int'
  · exact r.str'
/-! ### a dict of tuples in the heap -/
abbrev kvI (p : List Int × Addr × V) (q : List Int × Addr × Value) : Prop := p.1 = q.1 ∧ p.2.1 = q.2.1 ∧ RelV p.2.2 q.2.2
theorem items_int {P : Program} {w : World} : ∀ {ks : List Int} {us : List Value}, Vals (ks.map V.int) us → ItemsAre (intKind P w) ks us
  | [], _, r => by rw [List.map_nil] at r; cases r; exact .nil
  | k :: ks, _, r => by
    rw [List.map_cons] at r
    cases r with
    | @cons _ b _ _ h t =>
      obtain ⟨tk, e⟩ := (show ∃ tk, b = Value.int k tk from h)
      subst e
      exact .cons (by simp [PySem.intKind, Value.isInt]) (items_int t)
section
variable {X : Cx} {E : XK} {pins : List (Addr × Obj)} {σ : SL} {H : Hp} {s : Shared} {a : Addr}
theorem sqF_key {b : Addr} {k : List Int} (I : Inv X pins σ H s) (q : SqF X.K H b (k.map V.int)) : (tupleKind (intKind X.prog X.w)).is s.heap k b := by
  obtain ⟨its, r, ⟨o, h1, h2, n, h3⟩, _⟩ := I.tuple q.t
  exact ⟨o, its.toArray, n, h1, h2, h3, by simpa using items_int r⟩
theorem dictI_of {us : List (List Int × Addr × V)} (I : Inv X pins σ H s) (e : Rd H a (dictI a us)) (ks : ∀ x ∈ us, SqF X.K H x.2.1 (x.1.map V.int)) : us.length ≤ sizeLine ∧ (a == sysModules) = false ∧
    ∃ xs, Paired kvI us xs ∧ s.heap.DictOfH (tupleKind (intKind X.prog X.w)) a xs := by
  have e' : ObjOk X.prog X.w H s.heap a (dictI a us) := by
    rcases e with e | ⟨od, e⟩
    · exact I.hok a _ e
    · exact (I.hok a _ e).2
  obtain ⟨⟨z, y, xs, r, o, es, ep, h1, h2, h3, h4, h5⟩, _⟩ := e'
  refine ⟨z, y, xs, r, o, es, ep, h1, h2, h3, h4, fun x hx => ?_, h5⟩
  have all : ∀ {us : List (List Int × Addr × V)} {xs : List (List Int × Addr × Value)}, Paired kvI us xs → (∀ x ∈ us, SqF X.K H x.2.1 (x.1.map V.int)) → ∀ x ∈ xs, (tupleKind (intKind X.prog X.w)).is s.heap x.1 x.2.1 := by
    intro us xs r
    induction r with
    | nil => intro _ x hx; exact nomatch hx
    | @cons p q ps qs hq t ih =>
      intro ks x hx
      rcases List.mem_cons.mp hx with e | hx
      · rw [e, ← hq.1, ← hq.2.1]
        exact sqF_key I (ks p List.mem_cons_self)
      · exact ih (fun x h => ks x (List.mem_cons_of_mem _ h)) x hx
  exact all r ks x hx
/-- what a dict cell holds -/
structure DRep (X : Cx) (W : Wd) (H : Hp) (a : Addr) (kvs : List (List Int × D)) (us : List (List Int × Addr × V)) : Prop where
  at' : H a = some (dictI a us)
  ks : us.map (·.1) = kvs.map (·.1)
  sq : ∀ x ∈ us, SqF X.K H x.2.1 (x.1.map V.int)
  vs : Reps X.K W H (kvs.map (·.2)) (us.map (·.2.2))
theorem DRep.val {W : Wd} {kvs : List (List Int × D)} {us : List (List Int × Addr × V)} (h : DRep X W H a kvs us) (k : List Int) : match valD kvs k with
    | some d => ∃ v, valV (us.map fun x => (x.1, x.2.2)) k = some v ∧ Rep X.K W H d v
    | none => valV (us.map fun x => (x.1, x.2.2)) k = none :=
  valD_rep (us := us.map fun x => (x.1, x.2.2)) (by rw [List.map_map]; exact h.ks) (by rw [List.map_map]; exact h.vs) k
end
end Mir

/-! Mir, dicts: the rules. -/
namespace Mir
open PySem PySem.Spec PyProof.Rows L2
section
variable {X : Cx} {E : XK} {pins : List (Addr × Obj)} {σ : SL} {H : Hp} {s : Shared} {W : Wd} {m : Mem}
def RepO (K : PySem.W.Frag) (W : Wd) (H : Hp) (o : Option D) (w : Option V) : Prop := match o with
  | some d => ∃ v, w = some v ∧ Rep K W H d v
  | none => w = none
theorem RepO.iso {K : PySem.W.Frag} {W : Wd} {H : Hp} {o : Option D} {w : Option V} (h : RepO K W H o w) : w.isSome = o.isSome := by
  cases o with
  | none => rw [show w = none from h]; rfl
  | some d => obtain ⟨v, e, _⟩ := h; rw [e]; rfl
theorem dgk {a : Addr} {us : List (Key × V)} {k : Key} (e : Rd H a (.dK us)) : DGet H a (kV k) (valV us k) := .inl ⟨us, k, e, rfl, rfl⟩
/-- a look-up: in a dict of either sort -/
inductive Look' (X : Cx) (W : Wd) (H : Hp) (a : Addr) (y : V) (o : Option D) : Prop where
  | k (us : List (Key × V)) (k : Key) (w : Option V) (h : Rd H a (.dK us)) (hy : y = kV k) (hw : valV us k = w) (hr : RepO X.K W H o w)
  | t (us : List (List Int × Addr × V)) (k : List Int) (b : Addr) (w : Option V) (h : Rd H a (dictI a us)) (ks : ∀ x ∈ us, SqF X.K H x.2.1 (x.1.map V.int)) (hy : y = .ref b) (hb : SqF X.K H b (k.map V.int)) (hw : valV (us.map fun x => (x.1, x.2.2)) k = w) (hr : RepO X.K W H o w)
theorem Look'.typeIs {a : Addr} {y : V} {o : Option D} (I : Inv X pins σ H s) (l : Look' X W H a y o) : s.TypeIs (.ref a) "dict" := by
  cases l with
  | k us k w h hy hw hr => exact dict_typeIs I (dgk (k := k) h)
  | t us k b w h ks hy hb hw hr =>
    obtain ⟨_, _, xs, _, dd⟩ := dictI_of I h ks
    exact dd.typeIs
/-! ### a store -/
end
end Mir

/-! Mir, dicts: new ones, displays, len. -/
namespace Mir
open PySem PySem.Spec PyProof.Rows L2
section
variable {X : Cx} {E : XK} {pins : List (Addr × Obj)} {σ : SL} {H : Hp} {s : Shared} {W : Wd} {m : Mem}
theorem add_last {W : Wd} {p : Addr} (h : W.i.length = m.length) : (W.add p).i[m.length]? = some p := by
  show (W.i ++ [p])[m.length]? = some p
  rw [← h, List.getElem?_append_right (Nat.le_refl _), Nat.sub_self]
  rfl
end
end Mir

/-! Mir: mirrors that laws share (printed by share2.py). -/
namespace Mir.Y
open PySem PySem.Spec PyProof.Rows L2 Mir
end Mir.Y

/-! Mir: len(set(..)) of whole numbers, shifts. -/
namespace Mir
open PySem PySem.Spec PyProof.Rows L2
/-- the unlike numbers, as they come up -/
def unl (ns : List Int) : List Int := ns.foldl PyProof.Rows.step_dedup []
theorem step_any (l : List Int) (x : Int) : PyProof.Rows.step_dedup l x = if x ∈ l then l else l ++ [x] := by
  show (if l.any (· == x) = true then l else l ++ [x]) = _
  by_cases h : x ∈ l
  · rw [if_pos h, if_pos (List.any_eq_true.mpr ⟨x, h, by simp⟩)]
  · rw [if_neg h, if_neg]
    intro q
    obtain ⟨y, hy, e⟩ := List.any_eq_true.mp q
    rw [eq_of_beq e] at hy
    exact h hy
theorem unl_from : ∀ (ns l : List Int), l.Nodup → (ns.foldl PyProof.Rows.step_dedup l).Nodup ∧ ∀ x, x ∈ ns.foldl PyProof.Rows.step_dedup l ↔ x ∈ l ∨ x ∈ ns
  | [], l, h => ⟨h, fun x => by simp⟩
  | n :: ns, l, h => by
    have h1 : (PyProof.Rows.step_dedup l n).Nodup := by
      rw [step_any]
      split
      · exact h
      · rename_i hn
        exact List.nodup_append.mpr ⟨h, by simp, fun a ha b hb => by
          have : b = n := by simpa using hb
          rintro rfl
          exact hn (this ▸ ha)⟩
    obtain ⟨h2, h3⟩ := unl_from ns (PyProof.Rows.step_dedup l n) h1
    refine ⟨h2, fun x => ?_⟩
    rw [List.foldl_cons, h3 x, step_any, List.mem_cons]
    split
    · rename_i hn
      constructor
      · rintro (a | a)
        · exact .inl a
        · exact .inr (.inr a)
      · rintro (a | rfl | a)
        · exact .inl a
        · exact .inl hn
        · exact .inr a
    · rw [List.mem_append, List.mem_singleton, or_assoc]
theorem unl_nodup (ns : List Int) : (unl ns).Nodup := (unl_from ns [] .nil).1
theorem unl_mem {ns : List Int} {x : Int} : x ∈ unl ns ↔ x ∈ ns := by
  rw [show unl ns = ns.foldl PyProof.Rows.step_dedup [] from rfl, (unl_from ns [] .nil).2 x]
  simp
theorem nodup_le {α : Type} [DecidableEq α] : ∀ (l k : List α), l.Nodup → (∀ x ∈ l, x ∈ k) → l.length ≤ k.length
  | [], _, _, _ => Nat.zero_le _
  | x :: l, k, hn, hs => by
    obtain ⟨h1, h2⟩ := List.nodup_cons.mp hn
    have hx : x ∈ k := hs x List.mem_cons_self
    have ih := nodup_le l (k.erase x) h2 fun y hy => by
      have hne : y ≠ x := fun e => h1 (e ▸ hy)
      exact (List.mem_erase_of_ne hne).2 (hs y (List.mem_cons_of_mem _ hy))
    have e := List.length_erase_of_mem hx
    have hp : 0 < k.length := List.length_pos_of_mem hx
    rw [List.length_cons]
    omega
theorem unl_is {ns l : List Int} (h : l.Nodup) (h2 : ∀ x, x ∈ l ↔ x ∈ ns) : (unl ns).length = l.length :=
  Nat.le_antisymm (nodup_le _ _ (unl_nodup ns) fun x hx => (h2 x).mpr (unl_mem.mp hx)) (nodup_le _ _ h fun x hx => unl_mem.mpr ((h2 x).mp hx))
theorem unl_all {ns : List Int} : (unl ns).length = ns.length ↔ ns.Nodup := by
  constructor
  · intro h
    have key : ∀ (ns l : List Int), (ns.foldl PyProof.Rows.step_dedup l).length = l.length + ns.length → l.Nodup → (l ++ ns).Nodup := by
      intro ns
      induction ns with
      | nil => intro l _ h; simpa using h
      | cons n ns ih =>
        intro l h hl
        have hle : ∀ (ns l : List Int), (ns.foldl PyProof.Rows.step_dedup l).length ≤ l.length + ns.length := by
          intro ns
          induction ns with
          | nil => intro l; simp
          | cons n ns ih =>
            intro l
            have := ih (PyProof.Rows.step_dedup l n)
            have h2 : (PyProof.Rows.step_dedup l n).length ≤ l.length + 1 := by rw [step_any]; split <;> simp
            rw [List.foldl_cons, List.length_cons]
            omega
        have h1 := hle ns (PyProof.Rows.step_dedup l n)
        rw [List.foldl_cons, List.length_cons] at h
        by_cases hn : n ∈ l
        · rw [step_any, if_pos hn] at h h1
          omega
        · have e : PyProof.Rows.step_dedup l n = l ++ [n] := by rw [step_any, if_neg hn]
          rw [e] at h
          have := ih (l ++ [n]) (by rw [h]; simp; omega) (List.nodup_append.mpr ⟨hl, by simp, fun a ha b hb => by
            have : b = n := by simpa using hb
            rintro rfl
            exact hn (this ▸ ha)⟩)
          simpa using this
    have := key ns [] (by show (unl ns).length = _; rw [h]; simp) .nil
    simpa using this
  · intro h
    exact unl_is h fun x => Iff.rfl
section
variable {X : Cx} {E : XK}
end
end Mir

/-! Mir: shifts, d.setdefault(k, x), max(.., default=x). -/
namespace Mir
open PySem PySem.Spec PyProof.Rows L2
section
variable {X : Cx} {E : XK}
end
/-! ### setdefault -/
section
variable {X : Cx} {E : XK}
end
/-! ### max(.., default=d) -/
section
variable {prog : Program} {w : World} {A : Around} {R' : Result → Shared → Prop} {J : Addr} {fp wr : List Addr} {n : Nat} {P : Nat → Value → Prop} {St : Nat → Heap → Prop}
end
section
variable {prog : Program} {w : World} {A : Around} {Ex : Value → Shared → Prop} {s : Shared}
end
section
variable {X : Cx} {E : XK}
end
end Mir

/-! Mir: walks over a dict's keys: the dict is locked from then on. -/
namespace Mir
open PySem PySem.Spec PyProof.Rows L2
section
variable {X : Cx} {E : XK} {pins : List (Addr × Obj)} {σ : SL} {H : Hp} {s : Shared} {W : Wd} {m : Mem}
end
section
variable {P : Program} {w : World} {K : PySem.W.Frag} {tg : Expr} {d : Addr} {o : Obj} {es : Array DictEntry} {ep : Nat}
end
section
variable {X : Cx} {E : XK} {tg it : Expr} {W : Wd} {H : Hp} {m : Mem}
end
end Mir

/-! Mir: sorted(set(..)) of texts. -/
namespace Mir
open PySem PySem.Spec PyProof.Rows L2
def txOf (e : Int × Value) : Str := match e.2 with
  | .str x _ => x
  | _ => Str.empty
section
variable {P : Program} {w : World}
def TxE (P : Program) (w : World) (e : Int × Value) : Prop := ∃ x t, e.2 = Value.str x t ∧ e.1 = (strKind P w).hash x
/-- a set of texts, all that have been added -/
def SetTx (P : Program) (w : World) (h : Heap) (a : Addr) (xs : List Str) : Prop :=
  ∃ o es ep t, h.get? a = some o ∧ o.ExactSet ∧ o.data = .set es ep t ∧ ((∀ e ∈ es.toList, TxE P w e) ∧ (es.toList.map txOf).Nodup ∧ ∀ x, x ∈ es.toList.map txOf ↔ x ∈ xs) ∧ (es.size < scanBound ∧ es.size ≤ xs.length) ∧ t.fits es.size = true ∧ Ris t.place.toList ∧ (w.params.followText "set-order" = true ∨ t.led = true)
theorem SetTx.at {h h' : Heap} {a : Addr} {xs : List Str} (R : SetTx P w h a xs) (k : ∀ o, h.get? a = some o → h'.get? a = some o) : SetTx P w h' a xs := by
  obtain ⟨o, es, ep, t, ho, r⟩ := R
  exact ⟨o, es, ep, t, k o ho, r⟩
variable {A : Around} {Ex : Value → Shared → Prop} {s : Shared} {a : Addr} {xs : List Str}
end
end Mir

/-! Mir: sorted(set(xs)) of texts. -/
namespace Mir
open PySem PySem.Spec PyProof.Rows L2
section
variable {P : Program} {w : World} {A : Around} {Ex : Value → Shared → Prop} {s : Shared} {a : Addr} {xs : List Str}
end
section
variable {X : Cx} {E : XK}
end
end Mir

/-! Mir: dict(a list of pairs): keys ints or texts. -/
namespace Mir
open PySem PySem.Spec PyProof.Rows L2
section
variable {X : Cx} {E : XK} {K : PySem.W.Frag} {W : Wd} {H : Hp}
end
section
variable {X : Cx} {E : XK}
end
/-! ### keys that are tuples of ints -/
section
variable {K : PySem.W.Frag} {W : Wd} {H : Hp}
end
section
variable {X : Cx} {E : XK} {pins : List (Addr × Obj)} {σ : SL} {H : Hp} {s : Shared}
end
end Mir

/-! Mir: mirrors that laws share (printed by share3.py). -/
namespace Mir.Y
open PySem PySem.Spec PyProof.Rows L2 Mir
end Mir.Y

/-! Mir: three names at once. -/
namespace Mir
open PySem PySem.Spec PyProof.Rows L2
section
variable {X : Cx} {E : XK} {pos : Pos}
end
end Mir

/-! Mir: sorted of a tuple of texts. -/
namespace PyProof.Rows
open PySem PySem.Spec
section
variable {prog : Program} {w : World} {A : Around} {E : Value → Shared → Prop} {s : Shared}
end
end PyProof.Rows
namespace Mir
open PySem PySem.Spec PyProof.Rows L2
section
variable {X : Cx} {E : XK}
end
end Mir

/-! Mir: mirrors that laws share (printed by share4.py). -/
namespace Mir.Y
open PySem PySem.Spec PyProof.Rows L2 Mir
def b_behind_0s1 : SM := (mAsg (mOp gIx (mOp gIx (mVar 5) (mVar 1)) (mBM "tuple" gIndexT (mVar 4) (mCons (mVar 3) mNil))) (gNm 1))
def b_behind_0 : SM := mSeq (mIfS (mOr (mTest (mOp (gIn true) (mVar 3) (mVar 4))) (mTest (mOp (gIs false) (mOp gIx (mOp gIx (mVar 5) (mVar 1)) (mBM "tuple" gIndexT (mVar 4) (mCons (mVar 3) mNil))) (mC .non)))) (mRet (mC .non)) mSkip) b_behind_0s1
def b_behind_s2 : SM := (mRet (mVar 1))
def b_behind_s1 : SM := mSeq (mFor (mIt (mVar 2)) (gNm 3) b_behind_0) b_behind_s2
def b_behind : SM := mSeq (mAsg (mVar 0) (gTp 2 (gsCons (gNm 4) (gsCons (gNm 5) gsNil)))) b_behind_s1
def m_behind : FM := mFn 3 6 b_behind
end Mir.Y

/-! Mir: mirrors that laws share (printed by shareV.py). -/
namespace Mir.V
open PySem PySem.Spec PyProof.Rows L2 Mir Mir.Y
def b__law_names_0s1 : SM := (mAsg (mOp (gAdd false) (mVar 10) (mC (.int 1))) (gNm 10))
def b__law_names_0 : SM := mSeq (mAsg (mOp gMulS (mOp gIx (mVar 2) (mOp gMod (mVar 10) (mC (.int 26)))) (mOp (gAdd false) (mC (.int 1)) (mOp gFdiv (mVar 10) (mC (.int 26))))) (gNm 9)) b__law_names_0s1
def b__law_names_1s4 : SM := (mDrop (mBM "list" gAppend (mVar 7) (mCons (mVar 9) mNil)))
def b__law_names_1s3 : SM := mSeq (mWhile (mOr (mTest (mOp (gIn false) (mVar 9) (mVar 7))) (mTest (mOp (gIn false) (mVar 9) (mTup (mCons (mC (.str (Str.ofString "deeds"))) (mCons (mC (.str (Str.ofString "room"))) (mCons (mC (.str (Str.ofString "heap"))) (mCons (mC (.str (Str.ofString "map"))) (mCons (mC (.str (Str.ofString "yard"))) mNil))))))))) b__law_names_0) b__law_names_1s4
def b__law_names_1s2 : SM := mSeq (mAsg (mC (.int 0)) (gNm 10)) b__law_names_1s3
def b__law_names_1s1 : SM := mSeq (mIfS (mTru (mVar 6)) (mAsg (mOp (gAdd false) (mOp (gAdd false) (mSl (gSl false) (mVar 3) mNoPart (mPart (mVar 4))) (mOp gIx (mVar 2) (mOp gMod (mOp (gAdd false) (mVar 5) (mVar 8)) (mC (.int 26))))) (mSl (gSl false) (mVar 3) (mPart (mOp (gAdd false) (mVar 4) (mC (.int 1)))) mNoPart)) (gNm 9)) mSkip) b__law_names_1s2
def b__law_names_1 : SM := mSeq (mAsg (mCall m__law_word (mCons (mVar 0) mNil)) (gNm 9)) b__law_names_1s1
def b__law_names_s7 : SM := (mRet (mCB bTuple (mCons (mCB (bSortedS false) (mCons (mVar 7) mNil)) mNil)))
def b__law_names_s6 : SM := mSeq (mFor (mRng1 (mVar 1)) (gNm 8) b__law_names_1) b__law_names_s7
def b__law_names_s5 : SM := mSeq (mAsg (mLst true mNil) (gNm 7)) b__law_names_s6
def b__law_names_s4 : SM := mSeq (mAsg (mOp (gEq false) (mCall m__law_pick (mCons (mVar 0) (mCons (mC (.int 2)) mNil))) (mC (.int 0))) (gNm 6)) b__law_names_s5
def b__law_names_s3 : SM := mSeq (mAsg (mCall m__law_pick (mCons (mVar 0) (mCons (mC (.int 26)) mNil))) (gNm 5)) b__law_names_s4
def b__law_names_s2 : SM := mSeq (mAsg (mCall m__law_pick (mCons (mVar 0) (mCons (mCB bLen (mCons (mVar 3) mNil)) mNil))) (gNm 4)) b__law_names_s3
def b__law_names_s1 : SM := mSeq (mAsg (mCall m__law_word (mCons (mVar 0) mNil)) (gNm 3)) b__law_names_s2
def b__law_names : SM := mSeq (mAsg (mC (.str (Str.ofString "abcdefghijklmnopqrstuvwxyz"))) (gNm 2)) b__law_names_s1
def m__law_names : FM := mFn 2 11 b__law_names
def b__law_plain_row : SM := (mRet (mLc [1] false (mIt (mVar 0)) (gNm 1) mYes (mOp gIx (mLst false (mCons (mVar 1) (mCons (mUn gNeg (mC (.int 1))) mNil))) (mCB bInt (mCons (mOp (gIs false) (mVar 1) (mC .non)) mNil)))))
def m__law_plain_row : FM := mFn 1 2 b__law_plain_row
def b__law_reordered_s3 : SM := (mRet (mTup (mCons (mOp gIx (mVar 1) (mC (.int 0))) (mCons (mCB bTuple (mCons (mVar 3) mNil)) mNil))))
def b__law_reordered_s2 : SM := mSeq (mFor (mIt (mVar 2)) (gNm 4) (mDrop (mBM "list" gAppend (mVar 3) (mCons (mCB bTuple (mCons (mLc [5] false (mIt (mCall m__law_plain_row (mCons (mOp gIx (mOp gIx (mVar 1) (mC (.int 1))) (mVar 4)) mNil))) (gNm 5) mYes (mOp gIx (mLst false (mCons (mC .non) (mCons (mBM "list" gIndexL (mVar 2) (mCons (mCB bMax (mCons (mC (.int 0)) (mCons (mVar 5) mNil))) mNil)) mNil))) (mCB bInt (mCons (mOp gGe (mVar 5) (mC (.int 0))) mNil)))) mNil)) mNil)))) b__law_reordered_s3
def b__law_reordered_s1 : SM := mSeq (mAsg (mLst true mNil) (gNm 3)) b__law_reordered_s2
def b__law_reordered : SM := mSeq (mAsg (mOp (gAdd false) (mLst false (mCons (mC (.int 0)) mNil)) (mCall m__law_shuffled (mCons (mVar 0) (mCons (mListRg2 false (mC (.int 1)) (mCB bLen (mCons (mOp gIx (mVar 1) (mC (.int 1))) mNil))) mNil)))) (gNm 2)) b__law_reordered_s1
def m__law_reordered : FM := mFn 2 6 b__law_reordered
def b__law_any_map_0s3 : SM := (mAsg (mVar 6) (gSubT (mOp gIx (mVar 5) (mVar 8)) (mVar 9)))
def b__law_any_map_0s2 : SM := mSeq (mAsg (mOp gIx (mVar 10) (mCall m__law_pick (mCons (mVar 0) (mCons (mCB bLen (mCons (mVar 10) mNil)) mNil)))) (gTp 2 (gsCons (gNm 8) (gsCons (gNm 9) gsNil)))) b__law_any_map_0s3
def b__law_any_map_0s1 : SM := mSeq (mFor (mRng1 (mVar 6)) (gNm 8) (mDrop (mBM "list" gExtend (mVar 10) (mCons (mLc [9] false (mRng1 (mVar 4)) (gNm 9) (mTest (mOp (gIs false) (mOp gIx (mOp gIx (mVar 5) (mVar 8)) (mVar 9)) (mC .non))) (mTup (mCons (mVar 8) (mCons (mVar 9) mNil)))) mNil)))) b__law_any_map_0s2
def b__law_any_map_0 : SM := mSeq (mAsg (mLst true mNil) (gNm 10)) b__law_any_map_0s1
def b__law_any_map_s8 : SM := (mRet (mCall m__law_reordered (mCons (mVar 0) (mCons (mTup (mCons (mCall m__law_names (mCons (mVar 0) (mCons (mVar 4) mNil))) (mCons (mCB bTuple (mCons (mLc [11] false (mIt (mVar 5)) (gNm 11) mYes (mCB bTuple (mCons (mVar 11) mNil))) mNil)) mNil))) mNil))))
def b__law_any_map_s7 : SM := mSeq (mFor (mRng1 (mVar 4)) (gNm 9) (mIfS (mTru (mCB (bAll fun bs => bs.all id) (mCons (mLc [11] false (mIt (mVar 5)) (gNm 11) mYes (mOp (gIs false) (mOp gIx (mVar 11) (mVar 9)) (mC .non))) mNil))) (mAsg (mCall m__law_pick (mCons (mVar 0) (mCons (mVar 3) mNil))) (gSubT (mOp gIx (mVar 5) (mCall m__law_pick (mCons (mVar 0) (mCons (mVar 3) mNil)))) (mVar 9))) mSkip)) b__law_any_map_s8
def b__law_any_map_s6 : SM := mSeq (mFor (mRng1 (mVar 3)) (gNm 8) (mFor (mRng1 (mVar 4)) (gNm 9) (mIfS (mAnd (mTest (mOp (gIs false) (mOp gIx (mOp gIx (mVar 5) (mVar 8)) (mVar 9)) (mC .non))) (mTest (mOp (gEq false) (mCall m__law_pick (mCons (mVar 0) (mCons (mVar 7) mNil))) (mC (.int 0))))) (mAsg (mCall m__law_pick (mCons (mVar 0) (mCons (mVar 3) mNil))) (gSubT (mOp gIx (mVar 5) (mVar 8)) (mVar 9))) mSkip))) b__law_any_map_s7
def b__law_any_map_s5 : SM := mSeq (mAsg (mOp (gAdd false) (mC (.int 2)) (mCall m__law_pick (mCons (mVar 0) (mCons (mC (.int 4)) mNil)))) (gNm 7)) b__law_any_map_s6
def b__law_any_map_s4 : SM := mSeq (mFor (mRng2 (mC (.int 1)) (mVar 3)) (gNm 6) b__law_any_map_0) b__law_any_map_s5
def b__law_any_map_s3 : SM := mSeq (mAsg (mLc [8] false (mRng1 (mVar 3)) (gNm 8) mYes (mOp (gRepL true) (mLst false (mCons (mC .non) mNil)) (mVar 4))) (gNm 5)) b__law_any_map_s4
def b__law_any_map_s2 : SM := mSeq (mIfS (mTest (mOp gGt (mVar 3) (mC (.int 1)))) (mAsg (mCB bMax (mCons (mC (.int 1)) (mCons (mVar 4) mNil))) (gNm 4)) mSkip) b__law_any_map_s3
def b__law_any_map_s1 : SM := mSeq (mAsg (mCall m__law_pick (mCons (mVar 0) (mCons (mOp (gAdd false) (mVar 2) (mC (.int 1))) mNil))) (gNm 4)) b__law_any_map_s2
def b__law_any_map : SM := mSeq (mAsg (mOp (gAdd false) (mC (.int 1)) (mCall m__law_pick (mCons (mVar 0) (mCons (mVar 1) mNil)))) (gNm 3)) b__law_any_map_s1
def m__law_any_map : FM := mFn 3 12 b__law_any_map
def b__law_walked_0s2 : SM := (mAsg (mBM "list" gIndexL (mVar 2) (mCons (mVar 9) mNil)) (gSubT (mVar 7) (mVar 8)))
def b__law_walked_0s1 : SM := mSeq (mIfS (mTest (mOp (gIn true) (mVar 9) (mVar 2))) (mDrop (mBM "list" gAppend (mVar 2) (mCons (mVar 9) mNil))) mSkip) b__law_walked_0s2
def b__law_walked_0 : SM := mSeq (mAsg (mCall m__law_led (mCons (mVar 5) (mCons (mVar 6) (mCons (mVar 8) mNil)))) (gNm 9)) b__law_walked_0s1
def b__law_walked_1s1 : SM := (mIfS (mTru (mCall m__law_is_there (mCons (mVar 5) (mCons (mVar 6) (mCons (mVar 8) mNil))))) b__law_walked_0 mSkip)
def b__law_walked_1 : SM := mSeq (mDrop (mBM "list" gAppend (mVar 7) (mCons (mC .non) mNil))) b__law_walked_1s1
def b__law_walked_2s3 : SM := (mDrop (mBM "list" gAppend (mVar 3) (mCons (mCB bTuple (mCons (mVar 7) mNil)) mNil)))
def b__law_walked_2s2 : SM := mSeq (mFor (mRng1 (mCB bLen (mCons (mVar 4) mNil))) (gNm 8) b__law_walked_1) b__law_walked_2s3
def b__law_walked_2s1 : SM := mSeq (mAsg (mLst true mNil) (gNm 7)) b__law_walked_2s2
def b__law_walked_2 : SM := mSeq (mAsg (mOp gIx (mVar 2) (mCB bLen (mCons (mVar 3) mNil))) (gNm 6)) b__law_walked_2s1
def b__law_walked_s5 : SM := (mRet (mTup (mCons (mCB bTuple (mCons (mVar 3) mNil)) (mCons (mVar 2) mNil))))
def b__law_walked_s4 : SM := mSeq (mIfS (mTest (mOp gGt (mCB bLen (mCons (mVar 2) mNil)) (mVar 1))) (mRet (mC .non)) mSkip) b__law_walked_s5
def b__law_walked_s3 : SM := mSeq (mWhile (mTest (mChain gLt gLe (mCB bLen (mCons (mVar 3) mNil)) (mCB bLen (mCons (mVar 2) mNil)) (mVar 1))) b__law_walked_2) b__law_walked_s4
def b__law_walked_s2 : SM := mSeq (mAsg (mLst true mNil) (gNm 3)) b__law_walked_s3
def b__law_walked_s1 : SM := mSeq (mAsg (mLst true (mCons (mCB bTuple (mCons (mLc [10] false (mIt (mVar 5)) (gNm 10) mYes (mOp gIx (mVar 10) (mC (.int 0)))) mNil)) mNil)) (gNm 2)) b__law_walked_s2
def b__law_walked : SM := mSeq (mAsg (mVar 0) (gTp 2 (gsCons (gNm 4) (gsCons (gNm 5) gsNil)))) b__law_walked_s1
def m__law_walked : FM := mFn 2 11 b__law_walked
def b__law_fuel_s1 : SM := (mRet (mTup (mCons (mOp (gAdd false) (mC (.int 1)) (mCall m__law_pick (mCons (mVar 0) (mCons (mC (.int 3)) mNil)))) (mCons (mVar 2) (mCons (mCB bTuple (mCons (mLc [3] false (mRng1 (mVar 1)) (gNm 3) mYes (mCB bInt (mCons (mOp (gEq false) (mCall m__law_pick (mCons (mVar 0) (mCons (mC (.int 4)) mNil))) (mC (.int 0))) mNil))) mNil)) mNil)))))
def b__law_fuel : SM := mSeq (mAsg (mCB bTuple (mCons (mLc [3] false (mRng1 (mVar 1)) (gNm 3) mYes (mC (.int 1))) mNil)) (gNm 2)) b__law_fuel_s1
def m__law_fuel : FM := mFn 2 4 b__law_fuel
def b__law_ring_heaps_s2 : SM := (mRet (mLst false (mCons (mVar 3) (mCons (mTup (mCons (mCall m__law_pick (mCons (mVar 0) (mCons (mC (.int 2)) mNil))) (mCons (mOp gIx (mVar 3) (mC (.int 2))) (mCons (mOp gIx (mVar 3) (mC (.int 1))) mNil)))) mNil))))
def b__law_ring_heaps_s1 : SM := mSeq (mAsg (mTup (mCons (mOp (gAdd false) (mC (.int 1)) (mCall m__law_pick (mCons (mVar 0) (mCons (mC (.int 2)) mNil)))) (mCons (mCB bTuple (mCons (mLc [5] false (mIt (mVar 2)) (gNm 5) mYes (mCB bInt (mCons (mOp (gEq false) (mVar 5) (mC (.int 0))) mNil))) mNil)) (mCons (mCB bTuple (mCons (mLc [5] false (mIt (mVar 2)) (gNm 5) mYes (mCB bInt (mCons (mOp (gEq false) (mVar 5) (mC (.int 1))) mNil))) mNil)) mNil)))) (gNm 3)) b__law_ring_heaps_s2
def b__law_ring_heaps : SM := mSeq (mAsg (mLc [4] false (mRng1 (mVar 1)) (gNm 4) mYes (mCall m__law_pick (mCons (mVar 0) (mCons (mC (.int 3)) mNil)))) (gNm 2)) b__law_ring_heaps_s1
def m__law_ring_heaps : FM := mFn 2 6 b__law_ring_heaps
def b__law_any_yard_s6 : SM := (mRet (mTup (mCons (mCall m__law_names (mCons (mVar 0) (mCons (mVar 2) mNil))) (mCons (mCB bTuple (mCons (mCall m__law_shuffled (mCons (mVar 0) (mCons (mVar 3) mNil))) mNil)) mNil))))
def b__law_any_yard_s5 : SM := mSeq (mIfS (mTest (mOp (gEq false) (mVar 5) (mC (.int 1)))) (mAsg (mOp (gAdd true) (mVar 3) (mCall m__law_ring_heaps (mCons (mVar 0) (mCons (mVar 2) mNil)))) (gNm 3)) mSkip) b__law_any_yard_s6
def b__law_any_yard_s4 : SM := mSeq (mIfS (mTest (mOp (gEq false) (mVar 5) (mC (.int 0)))) (mDrop (mBM "list" gAppend (mVar 3) (mCons (mCall m__law_fuel (mCons (mVar 0) (mCons (mVar 2) mNil))) mNil))) mSkip) b__law_any_yard_s5
def b__law_any_yard_s3 : SM := mSeq (mAsg (mCall m__law_pick (mCons (mVar 0) (mCons (mC (.int 3)) mNil))) (gNm 5)) b__law_any_yard_s4
def b__law_any_yard_s2 : SM := mSeq (mFor (mRng1 (mCall m__law_pick (mCons (mVar 0) (mCons (mC (.int 4)) mNil)))) (gNm 4) (mDrop (mBM "list" gAppend (mVar 3) (mCons (mCall m__law_heap (mCons (mVar 0) (mCons (mVar 2) (mCons (mOp gIx (mLst false (mCons (mC (.int 2)) (mCons (mC (.int 3)) (mCons (mC (.int 5)) mNil)))) (mCall m__law_pick (mCons (mVar 0) (mCons (mC (.int 3)) mNil)))) mNil)))) mNil)))) b__law_any_yard_s3
def b__law_any_yard_s1 : SM := mSeq (mAsg (mLst true mNil) (gNm 3)) b__law_any_yard_s2
def b__law_any_yard : SM := mSeq (mAsg (mOp (gAdd false) (mC (.int 1)) (mCall m__law_pick (mCons (mVar 0) (mCons (mVar 1) mNil)))) (gNm 2)) b__law_any_yard_s1
def m__law_any_yard : FM := mFn 2 6 b__law_any_yard
def b__law_map_of_s4 : SM := (mRet (mTup (mCons (mCB bTuple (mCons (mLc [5] false (mIt (mVar 4)) (gNm 5) mYes (mOp gIx (mOp gIx (mVar 0) (mC (.int 0))) (mVar 5))) mNil)) (mCons (mCB bTuple (mCons (mLc [6] false (mIt (mVar 3)) (gNm 6) mYes (mCB bTuple (mCons (mLc [5] false (mIt (mVar 4)) (gNm 5) mYes (mOp gIx (mVar 6) (mVar 5))) mNil))) mNil)) mNil))))
def b__law_map_of_s3 : SM := mSeq (mAsg (mLc [5] false (mRng1 (mCB bLen (mCons (mOp gIx (mVar 0) (mC (.int 0))) mNil))) (gNm 5) (mTru (mCB (bAll fun bs => bs.any id) (mCons (mLc [6] false (mIt (mVar 3)) (gNm 6) mYes (mOp (gIs true) (mOp gIx (mVar 6) (mVar 5)) (mC .non))) mNil))) (mVar 5)) (gNm 4)) b__law_map_of_s4
def b__law_map_of_s2 : SM := mSeq (mAsg (mOp gIx (mVar 2) (mC (.int 0))) (gNm 3)) b__law_map_of_s3
def b__law_map_of_s1 : SM := mSeq (mIfS (mTest (mOp (gIs false) (mVar 2) (mC .non))) (mRet (mC .non)) mSkip) b__law_map_of_s2
def b__law_map_of : SM := mSeq (mAsg (mCall m__law_walked (mCons (mVar 0) (mCons (mVar 1) mNil))) (gNm 2)) b__law_map_of_s1
def m__law_map_of : FM := mFn 2 7 b__law_map_of
def b__law_map_0s1 : SM := (mRet (mOp gIx (mLst false (mCons (mVar 5) (mCons (mCall m__law_marred (mCons (mVar 0) (mCons (mVar 5) mNil))) mNil))) (mCB bInt (mCons (mOp (gEq false) (mVar 3) (mC (.int 3))) mNil))))
def b__law_map_0 : SM := mSeq (mAsg (mCall m__law_reordered (mCons (mVar 0) (mCons (mVar 5) mNil))) (gNm 5)) b__law_map_0s1
def b__law_map_1s1 : SM := (mIfS (mAnd (mTest (mOp gGt (mVar 3) (mC (.int 0)))) (mAnd (mTest (mOp (gIs true) (mVar 5) (mC .non))) (mTest (mOp gGt (mCB bLen (mCons (mOp gIx (mVar 5) (mC (.int 1))) mNil)) (mC (.int 1)))))) b__law_map_0 mSkip)
def b__law_map_1 : SM := mSeq (mAsg (mCall m__law_map_of (mCons (mCall m__law_any_yard (mCons (mVar 0) (mCons (mVar 2) mNil))) (mCons (mVar 1) mNil))) (gNm 5)) b__law_map_1s1
def b__law_map_s2 : SM := (mRet (mCall m__law_any_map (mCons (mVar 0) (mCons (mVar 1) (mCons (mVar 2) mNil)))))
def b__law_map_s1 : SM := mSeq (mFor (mRng1 (mC (.int 3))) (gNm 4) b__law_map_1) b__law_map_s2
def b__law_map : SM := mSeq (mAsg (mCall m__law_pick (mCons (mVar 0) (mCons (mC (.int 4)) mNil))) (gNm 3)) b__law_map_s1
def m__law_map : FM := mFn 3 6 b__law_map
end Mir.V

/-! Mir, dicts whose keys are tuples of ints and texts: the hash of a text is the world's, kept as a datum of the cell. -/
namespace Mir
open PySem PySem.Spec PyProof.Rows L2
open Classical
def keyX : D → Option (List Key)
  | .tup ds => mapO keyD ds
  | _ => none
/-- the entries of such a dict -/
noncomputable def xOf (hs : Str → Int) (m : Mem) : D → Option (List (List Key × D))
  | .ref i => match m[i]? with
    | some (.dX hs' kvs) => if hs' = hs then some kvs else none
    | _ => none
  | _ => none
noncomputable def xGet (hs : Str → Int) (m : Mem) (d y : D) : Option (Option D) := (xOf hs m d).bind fun kvs => (keyX y).map fun k => valD kvs k
noncomputable def gXIn (hs : Str → Int) (neg : Bool) (y d : D) (m : Mem) : R D := match xGet hs m d y with
  | some o => .ok (.bl (o.isSome ^^ neg)) m
  | none => .stk
noncomputable def gXGet (hs : Str → Int) (d y : D) (m : Mem) : R D := match xGet hs m d y with
  | some (some v) => .ok v m
  | _ => .stk
noncomputable def xPut (hs : Str → Int) (d y v : D) (m : Mem) : R Unit := match d with
  | .ref i => match xOf hs m (.ref i), keyX y with
    | some kvs, some k => if kvs.length < sizeLine then .ok () (m.set i (.dX hs (putD kvs k v))) else .stk
    | _, _ => .stk
  | _ => .stk
noncomputable def mXPut (hs : Str → Int) (co ci cv : EM) : SM := fun η m => (cv η m).toS fun v m1 => (co η m1).toS fun o m2 => (ci η m2).toS fun i m3 => (xPut hs o i v m3).toS fun _ m4 => .nxt η m4
def mXNew (hs : Str → Int) : EM := fun _ m => .ok (.ref m.length) (m ++ [.dX hs []])
theorem xOf_ref {hs : Str → Int} {m : Mem} {i : Nat} {kvs : List (List Key × D)} (h : m[i]? = some (.dX hs kvs)) : xOf hs m (.ref i) = some kvs := by
  unfold xOf
  simp [h]
theorem xOf_inv {hs : Str → Int} {m : Mem} {d : D} {kvs : List (List Key × D)} (h : xOf hs m d = some kvs) : ∃ i, d = .ref i ∧ m[i]? = some (.dX hs kvs) := by
  unfold xOf at h
  split at h
  · rename_i i
    refine ⟨i, rfl, ?_⟩
    split at h
    · rename_i hs' kvs' e
      split at h
      · rename_i eh
        cases h
        rw [e, eh]
      · cases h
    · cases h
  · cases h
abbrev kvX (p : List Key × Addr × V) (q : List Key × Addr × Value) : Prop := p.1 = q.1 ∧ p.2.1 = q.2.1 ∧ RelV p.2.2 q.2.2
theorem hashX_eq (P : Program) (w : World) : hashX (hashStr w) = (mixKind P w).hash := by
  funext k
  cases k <;> rfl
theorem keyX_rep {K : PySem.W.Frag} {W : Wd} {H : Hp} {y : D} {v : V} {k : List Key} (r : Rep K W H y v) (h : keyX y = some k) : ∃ b, v = .ref b ∧ SqF K H b (k.map kV) := by
  have all : ∀ {ds : List D} {vs : List V} {bs : List Key}, Reps K W H ds vs → mapO keyD ds = some bs → vs = bs.map kV := by
    intro ds
    induction ds with
    | nil => intro vs bs r h; rw [r.nil']; cases h; rfl
    | cons d ds ih =>
      intro vs bs r h
      obtain ⟨v, vr, rfl, r1, r2⟩ := r.cons'
      obtain ⟨a, as, rfl, h1, h2⟩ := mapO_cons h
      rw [ih r2 h2, keyD_rep r1 h1]
      rfl
  cases y with
  | tup ds =>
    obtain ⟨a, vs, e, q, rs⟩ := r.tupF'
    refine ⟨a, e, ?_⟩
    have : mapO keyD ds = some k := h
    rw [all rs this] at q
    exact q
  | _ => cases h
section
variable {X : Cx} {E : XK} {pins : List (Addr × Obj)} {σ : SL} {H : Hp} {s : Shared} {W : Wd} {m : Mem} {a : Addr}
theorem sqX_key {b : Addr} {k : List Key} (I : Inv X pins σ H s) (q : SqF X.K H b (k.map kV)) : (tupleKind (mixKind X.prog X.w)).is s.heap k b := by
  obtain ⟨its, r, ⟨o, h1, h2, n, h3⟩, _⟩ := I.tuple q.t
  exact ⟨o, its.toArray, n, h1, h2, h3, by simpa using items_are r⟩
theorem dictX_of {us : List (List Key × Addr × V)} (I : Inv X pins σ H s) (e : Rd H a (dictX (hashStr X.w) a us)) (ks : ∀ x ∈ us, SqF X.K H x.2.1 (x.1.map kV)) : us.length ≤ sizeLine ∧ (a == sysModules) = false ∧
    ∃ xs, Paired kvX us xs ∧ s.heap.DictOfH (tupleKind (mixKind X.prog X.w)) a xs := by
  have e' : ObjOk X.prog X.w H s.heap a (dictX (hashStr X.w) a us) := by
    rcases e with e | ⟨od, e⟩
    · exact I.hok a _ e
    · exact (I.hok a _ e).2
  obtain ⟨⟨z, y, xs, r, o, es, ep, h1, h2, h3, h4, h5⟩, _⟩ := e'
  have h4' : es.toList = xs.map fun x => (⟨tupleKeyHash (mixKind X.prog X.w) x.1, .ref x.2.1, x.2.2⟩ : DictEntry) := by
    rw [h4]
    refine List.map_congr_left fun x _ => ?_
    unfold entX tupleKeyHash
    rw [hashX_eq X.prog X.w]
  refine ⟨z, y, xs, r, o, es, ep, h1, h2, h3, h4', fun x hx => ?_, h5⟩
  have all : ∀ {us : List (List Key × Addr × V)} {xs : List (List Key × Addr × Value)}, Paired kvX us xs → (∀ x ∈ us, SqF X.K H x.2.1 (x.1.map kV)) → ∀ x ∈ xs, (tupleKind (mixKind X.prog X.w)).is s.heap x.1 x.2.1 := by
    intro us xs r
    induction r with
    | nil => intro _ x hx; exact nomatch hx
    | @cons p q ps qs hq t ih =>
      intro ks x hx
      rcases List.mem_cons.mp hx with e | hx
      · rw [e, ← hq.1, ← hq.2.1]
        exact sqX_key I (ks p List.mem_cons_self)
      · exact ih (fun x h => ks x (List.mem_cons_of_mem _ h)) x hx
  exact all r ks x hx
theorem atKeyX_rel {us : List (List Key × Addr × V)} {xs : List (List Key × Addr × Value)} (r : Paired kvX us xs) (k : List Key) : RelO (valV (us.map fun x => (x.1, x.2.2)) k) ((atKey xs k).map (·.2)) := by
  induction r with
  | nil => exact trivial
  | @cons p q ps qs hq t ih =>
    rw [List.map_cons]
    by_cases e : p.1 = k
    · rw [valV_pos (show (p.1, p.2.2).1 = k from e)]
      have : atKey (q :: qs) k = some q.2 := by simp [atKey, List.find?_cons, ← hq.1, e]
      rw [this]
      exact hq.2.2
    · rw [valV_neg (show ¬ (p.1, p.2.2).1 = k from e)]
      have : atKey (q :: qs) k = atKey qs k := by simp [atKey, List.find?_cons, ← hq.1, e]
      rw [this]
      exact ih
/-- a look-up -/
structure LookX (X : Cx) (W : Wd) (H : Hp) (a : Addr) (y : V) (o : Option D) : Prop where
  ex : ∃ (us : List (List Key × Addr × V)) (k : List Key) (b : Addr) (w : Option V), Rd H a (dictX (hashStr X.w) a us) ∧ (∀ x ∈ us, SqF X.K H x.2.1 (x.1.map kV)) ∧ y = .ref b ∧ SqF X.K H b (k.map kV) ∧ valV (us.map fun x => (x.1, x.2.2)) k = w ∧ RepO X.K W H o w
theorem xGet_look {d y : D} {x v : V} {o : Option D} (sm : Sim X.K X.mg W H m) (rd : Rep X.K W H d x) (ry : Rep X.K W H y v) (h : xGet (hashStr X.w) m d y = some o) : ∃ a, x = .ref a ∧ LookX X W H a v o := by
  unfold xGet at h
  cases hx : xOf (hashStr X.w) m d with
  | none => rw [hx] at h; cases h
  | some kvs =>
    rw [hx] at h
    obtain ⟨i, rfl, hm⟩ := xOf_inv hx
    obtain ⟨a, e1, e2⟩ := rd.ref'
    obtain ⟨us, q1, q2, q3, q4⟩ := sm.cell i a _ e2 hm
    cases hk : keyX y with
    | none => rw [hk] at h; cases h
    | some k =>
      rw [hk] at h
      obtain rfl : valD kvs k = o := Option.some.inj h
      obtain ⟨b, hb1, hb2⟩ := keyX_rep ry hk
      have er := valD_rep (kvs := kvs) (us := us.map fun x => (x.1, x.2.2)) (by rw [List.map_map]; exact q2) (by rw [List.map_map]; exact q4) k
      exact ⟨a, e1, ⟨us, k, b, _, .inl q1, q3, hb1, hb2, rfl, er⟩⟩
theorem LookX.typeIs {y : V} {o : Option D} (I : Inv X pins σ H s) (l : LookX X W H a y o) : s.TypeIs (.ref a) "dict" := by
  obtain ⟨us, k, b, w, h, ks, _⟩ := l.ex
  obtain ⟨_, _, xs, _, dd⟩ := dictX_of I h ks
  exact dd.typeIs
theorem om_xins {neg : Bool} (hu : X.A.units + 1 < cLine) : OpM X E (compareOp (inOp neg)) (gXIn (hashStr X.w) neg) := by
  rintro pins s σ H x y v u Q I rx ry ⟨W, m, d, e, sm, rd, re, p⟩
  unfold gXIn at p
  cases h : xGet (hashStr X.w) m e d with
  | none => rw [h] at p; exact p.elim
  | some o =>
    rw [h] at p
    obtain ⟨a, rfl, l⟩ := xGet_look sm re rd h
    obtain rfl : u = Value.ref a := ry
    obtain ⟨us, k, b, w, hd, ks, hy, hb, hw, hr⟩ := l.ex
    have e := hr.iso
    rw [← hw] at e
    subst hy
    cases (show v = Value.ref b from rx)
    obtain ⟨z, y, xs, rel, dd⟩ := dictX_of I hd ks
    have q := (atKeyX_rel rel k).isSome_eq
    rw [Option.isSome_map, e] at q
    cases neg with
    | false =>
      refine wpAny_in_heap (tupleKind_room_in1 hu) (sqX_key I hb) y dd ?_
      rw [← q]
      exact ⟨.bl (o.isSome ^^ false), H, I.tok _, by simp; rfl, p.now sm rep_bl⟩
    | true =>
      refine wpAny_notIn_heap (tupleKind_room_in1 hu) (sqX_key I hb) y dd ?_
      rw [← q]
      exact ⟨.bl (o.isSome ^^ true), H, I.tok _, by simp; rfl, p.now sm rep_bl⟩
theorem om_xnotin (hu : X.A.units + 1 < cLine) : OpM X E (compareOp .NotIn) (gXIn (hashStr X.w) true) := om_xins (neg := true) hu
theorem me_xget {o i : Expr} {pos : Pos} {co ci : EM} (hu : X.A.units + 1 < cLine) (ho : MEx X E o co) (hi : MEx X E i ci) (hs : NoSl i) : MEx X E (.Subscript o i pos) (mOp (gXGet (hashStr X.w)) co ci) := by
  refine ⟨fun pins s σ H Q I h => ?_⟩
  have h2 := two h
  refine subD_of PySem.F.slot_dict_getitem.lookup hs (thn (ho.run pins s σ H _ I h2) fun u s1 ⟨x, H1, I1, rx, q1⟩ => thn (hi.run pins s1 σ H1 _ I1 q1) fun iv s2 ⟨y, H2, I2, ry, W, m, d, e, sm, rd, re, p⟩ => ?_)
  unfold gXGet at p
  cases hg : xGet (hashStr X.w) m d e with
  | none => rw [hg] at p; exact p.elim
  | some o =>
    cases o with
    | none => rw [hg] at p; exact p.elim
    | some z =>
      rw [hg] at p
      obtain ⟨a, rfl, l⟩ := xGet_look sm rd re hg
      obtain rfl : u = Value.ref a := rx
      refine ⟨l.typeIs I2, ?_⟩
      obtain ⟨us, k, b, w, hd, ks, hy, hb, hw, hr⟩ := l.ex
      obtain ⟨v, e, r⟩ := hr
      subst hy e
      cases (show iv = Value.ref b from ry)
      obtain ⟨z, y, xs, rel, dd⟩ := dictX_of I2 hd ks
      obtain ⟨w', hw', rw'⟩ := RelO.some_of (v := v) (o := (atKey xs k).map (·.2)) (by rw [← hw]; exact atKeyX_rel rel k)
      obtain ⟨p', hp, hp2⟩ := Option.map_eq_some_iff.mp hw'
      refine wpAny_getItem_heap (tupleKind_room_in1 hu) (sqX_key I2 hb) dd hp ?_
      rw [hp2]
      exact ⟨v, H2, I2.tok _, rw', p.now sm r⟩
/-! ### a store -/
noncomputable def putX (us : List (List Key × Addr × V)) (k : List Key) (b : Addr) (v : V) : List (List Key × Addr × V) :=
  if (us.any fun x => decide (x.1 = k)) = true then us.map (fun x => if x.1 = k then (x.1, x.2.1, v) else x) else us ++ [(k, b, v)]
theorem atKeyX_any {us : List (List Key × Addr × V)} {xs : List (List Key × Addr × Value)} (r : Paired kvX us xs) (k : List Key) : (atKey xs k).isSome = us.any fun x => decide (x.1 = k) := by
  induction r with
  | nil => rfl
  | @cons p q ps qs hq t ih =>
    rw [List.any_cons]
    by_cases e : p.1 = k
    · have : atKey (q :: qs) k = some q.2 := by simp [atKey, List.find?_cons, ← hq.1, e]
      rw [this, decide_eq_true e]
      rfl
    · have : atKey (q :: qs) k = atKey qs k := by simp [atKey, List.find?_cons, ← hq.1, e]
      rw [this, decide_eq_false e, ih]
      rfl
theorem putX_rel {us : List (List Key × Addr × V)} {xs : List (List Key × Addr × Value)} (r : Paired kvX us xs) (k : List Key) (b : Addr) {v : V} {u : Value} (rv : RelV v u) : Paired kvX (putX us k b v) (storedH xs k b u) := by
  unfold putX storedH
  rw [atKeyX_any r]
  split
  · refine paired_map (fun p q hq => ?_) r
    unfold putAt
    rw [← hq.1]
    split
    · exact ⟨rfl, hq.2.1, rv⟩
    · exact hq
  · exact paired_app r ⟨rfl, rfl, rv⟩
theorem putX_len (us : List (List Key × Addr × V)) (k : List Key) (b : Addr) (v : V) : (putX us k b v).length ≤ us.length + 1 := by
  unfold putX
  split <;> simp
theorem putX_keys {us : List (List Key × Addr × V)} {kvs : List (List Key × D)} (h : us.map (·.1) = kvs.map (·.1)) (k : List Key) (b : Addr) (v : V) (d : D) : (putX us k b v).map (·.1) = (putD kvs k d).map (·.1) := by
  unfold putX putD
  rw [has_keys h]
  split
  · rw [repl_keys (fun x => by split <;> rfl), repl_keys (fun x => by split <;> rfl)]
    exact h
  · rw [List.map_append, List.map_append, h]
    rfl
theorem putX_vals (us : List (List Key × Addr × V)) (k : List Key) (b : Addr) (v : V) : (putX us k b v).map (fun x => (x.1, x.2.2)) = putK (us.map fun x => (x.1, x.2.2)) k v := by
  unfold putX putK
  have e : ((us.map fun x => (x.1, x.2.2)).any fun kv => decide (kv.1 = k)) = us.any fun x => decide (x.1 = k) := by
    rw [List.any_map]
    rfl
  rw [e]
  split
  · rw [List.map_map, List.map_map]
    refine List.map_congr_left fun x _ => ?_
    show (fun x : List Key × Addr × V => (x.1, x.2.2)) (if x.1 = k then (x.1, x.2.1, v) else x) = if x.1 = k then (x.1, v) else (x.1, x.2.2)
    split <;> rfl
  · rw [List.map_append]
    rfl
theorem putX_mem {us : List (List Key × Addr × V)} {k : List Key} {b : Addr} {v : V} {x : List Key × Addr × V} (h : x ∈ putX us k b v) : (∃ y ∈ us, x.1 = y.1 ∧ x.2.1 = y.2.1) ∨ (x.1 = k ∧ x.2.1 = b) := by
  unfold putX at h
  split at h
  · obtain ⟨y, hy, e⟩ := List.mem_map.mp h
    refine .inl ⟨y, hy, ?_⟩
    rw [← e]
    split <;> exact ⟨rfl, rfl⟩
  · rcases List.mem_append.mp h with h | h
    · exact .inl ⟨x, h, rfl, rfl⟩
    · have : x = (k, b, v) := by simpa using h
      rw [this]
      exact .inr ⟨rfl, rfl⟩
theorem ent_eq (P : Program) (w : World) (x : List Key × Addr × Value) : entX (hashStr w) x = ⟨tupleKeyHash (mixKind P w) x.1, .ref x.2.1, x.2.2⟩ := by
  unfold entX tupleKeyHash
  rw [hashX_eq P w]
theorem x_put {o i : D} {d : D} {x y v : V} {u iv r : Value} {Q : Unit → Shared → Prop} {Ex : Value → Shared → Prop} {Q' : Unit → Hp → Prop} (hu : X.A.units + 1 < cLine) (I : Inv X pins σ H s) (sm : Sim X.K X.mg W H m) (ro : Rep X.K W H o x) (ri : Rep X.K W H i y) (rd : Rep X.K W H d v)
    (rx : RelV x u) (ry : RelV y iv) (rv : RelV v r) (p : Post X.K X.mg E (fun _ _ _ (_ : Unit) => True) W H Q' (xPut (hashStr X.w) o i d m)) (h : ∀ s' H', Inv X pins σ H' s' → Q' () H' → Q () s') :
    wpAny (model X.prog X.w) X.A (setItem u iv r) Q Ex s := by
  unfold xPut at p
  cases o with
  | ref j =>
    dsimp only at p
    cases hx : xOf (hashStr X.w) m (.ref j) with
    | none => rw [hx] at p; exact p.elim
    | some kvs =>
      obtain ⟨j', ej, hm⟩ := xOf_inv hx
      cases ej
      obtain ⟨a, rfl, e2⟩ := ro.ref'
      obtain rfl : u = Value.ref a := rx
      obtain ⟨us, q1, q2, q3, q4⟩ := sm.cell j a _ e2 hm
      have hin : a ∈ W.i := List.mem_of_getElem? e2
      rw [hx] at p
      cases hk : keyX i with
      | none => rw [hk] at p; exact p.elim
      | some k =>
        rw [hk] at p
        dsimp only at p
        split at p
        · rename_i hl
          obtain ⟨b, rfl, hb⟩ := keyX_rep ri hk
          cases (show iv = Value.ref b from ry)
          have hlen : us.length = kvs.length := by have := congrArg List.length q2; simpa using this
          obtain ⟨z, ym, xs, rel, dd⟩ := dictX_of I (.inl q1) q3
          have hz : xs.length ≤ sizeLine := by rw [← Paired.length rel]; exact z
          refine wpAny_setItem_heap (hsz := hz) (tupleKind_room_in1 hu) (sqX_key I hb) dd fun h' dd' hs => h _ (upd H a (dictX (hashStr X.w) a (putX us k b v))) ?_ ?_
          · obtain ⟨o, es, ep, hq, h2, h3, h4, _, h5⟩ := dd'
            have h4' : es.toList = (storedH xs k b r).map (entX (hashStr X.w)) := by
              rw [h4]
              exact List.map_congr_left fun x _ => (ent_eq X.prog X.w x).symm
            refine d_write I (by rw [q1]; exact True.intro) hs ⟨o, hq⟩ ⟨⟨?_, ym, _, putX_rel rel k b rv, o, es, ep, hq, h2, h3, h4', h5⟩, ⟨o, hq⟩, ?_⟩
            · have := putX_len us k b v
              omega
            · rintro h1 h2 ⟨z1, z2, z3, z4, o', es', ep', z5, z6⟩ hh
              exact ⟨z1, z2, z3, z4, o', es', ep', hh _ z5, z6⟩
          · have e := Ext.mut (o' := dictX (hashStr X.w) a (putX us k b v)) hin q1 rfl
            refine p () W _ e (sm.mut e2 ⟨_, upd_same, putX_keys q2 k b v d, fun x hx => ?_, ?_⟩) trivial
            · rcases putX_mem hx with ⟨y, hy, e1, e2⟩ | ⟨e1, e2⟩
              · rw [e1, e2]; exact e.sqF (q3 y hy)
              · rw [e1, e2]; exact e.sqF hb
            · have := put_reps (K := X.K) (W := W) (H := upd H a (dictX (hashStr X.w) a (putX us k b v))) (kvs := kvs) (us := us.map fun x => (x.1, x.2.2)) (by rw [List.map_map]; exact q2) (by rw [List.map_map]; exact q4.ext e) k (rd.ext e)
              rw [← putX_vals us k b v, List.map_map] at this
              exact this
        · exact p.elim
  | _ => exact p.elim
theorem ms_xput {o i value : Expr} {pos pos' : Pos} {co ci cv : EM} (hu : X.A.units + 1 < cLine) (ho : MEx X E o co) (hi : MEx X E i ci) (hv : MEx X E value cv) (hs : swapsWith value (some (.Subscript o i pos')) pos.line X.env = pure false := by rfl) :
    MS X E (.Assign [.Subscript o i pos'] value pos) (mXPut (hashStr X.w) co ci cv) := by
  refine ⟨fun pins s σ H Dn I h => ?_⟩
  obtain ⟨W, η, m, sm, n, p⟩ := h
  have p1 := PostS.bind (Rl := Rep X.K) p
  refine wpAny_Assign_Subscript (thn (hv.run pins s σ H _ I ⟨W, η, m, sm, n, p1⟩) fun r s1 ⟨v, H1, I1, rv, W1, d, m1, e1, sm1, rd, p2⟩ => ?_) hs
  have p2 := PostS.bind (Rl := Rep X.K) p2
  refine thn (ho.run pins s1 σ H1 _ I1 ⟨W1, η, m1, sm1, n.ext e1, p2⟩) fun u s2 ⟨x, H2, I2, rx, W2, od, m2, e2, sm2, ro, p3⟩ => ?_
  have p3 := PostS.bind (Rl := Rep X.K) p3
  refine thn (hi.run pins s2 σ H2 _ I2 ⟨W2, η, m2, sm2, (n.ext e1).ext e2, p3⟩) fun iv s3 ⟨y, H3, I3, ry, W3, idd, m3, e3, sm3, ri, p4⟩ => ?_
  have p4 := PostS.bind (Rl := fun _ _ _ (_ : Unit) => True) p4
  refine x_put (E := E) hu I3 sm3 (ro.ext e3) ri ((rd.ext e2).ext e3) rx ry rv p4 fun s4 H4 I4 ⟨W4, _, m4, e4, sm4, _, p5⟩ => ?_
  exact ⟨σ, H4, I4, p5 σ W4 H4 (Ext.refl _ _) sm4 ((((n.ext e1).ext e2).ext e3).ext e4)⟩
theorem me_xnew {pos : Pos} : MEx X E (.Dict [] [] pos) (mXNew (hashStr X.w)) := by
  refine ⟨fun pins s σ H Q I ⟨W, η, m, sm, n, p⟩ => ?_⟩
  have hn := I.hok.fresh (Nat.le_refl s.heap.objs.size)
  have hb := I.big
  have new : ObjOk X.prog X.w H (s.heap.push { cls := .type "dict", data := .dict #[] }) s.heap.objs.size (dictX (hashStr X.w) s.heap.objs.size []) :=
    ⟨⟨Nat.zero_le _, beq_eq_false_iff_ne.mpr (Ne.symm (Nat.ne_of_lt hb)), [], .nil, _, #[], 0, Heap.get?_push_size _ rfl, ⟨rfl, rfl, rfl⟩, rfl, rfl, List.nodup_nil⟩, ⟨_, Heap.get?_push_size _ rfl⟩, fun h1 h2 ⟨z1, z2, z3, z4, o', es', ep', z5, z6⟩ hh => ⟨z1, z2, z3, z4, o', es', ep', hh _ z5, z6⟩⟩
  have e : Ext W H (W.add s.heap.objs.size) (upd H s.heap.objs.size (dictX (hashStr X.w) s.heap.objs.size [])) := Ext.alloc hn (sm.ninz hn)
  have hc : CellOk X.K X.mg (W.add s.heap.objs.size) (upd H s.heap.objs.size (dictX (hashStr X.w) s.heap.objs.size [])) s.heap.objs.size (.dX (hashStr X.w) []) := ⟨[], upd_same, rfl, (fun x hx => absurd hx List.not_mem_nil), reps_nil⟩
  exact wpAny_Dict_empty ⟨.ref s.heap.objs.size, _, I.laid (a := s.heap.objs.size) (o := dictX (hashStr X.w) s.heap.objs.size []) (t' := s.toks) (fun _ _ q => Heap.get?_push_of_some _ q) (Nat.le_refl _) new, rfl,
    p _ _ _ e (sm.alloc hn hc) (rep_ref (add_last sm.len))⟩
end
/-! ### reasoning -/
section
variable {hs : Str → Int} {m : Mem} {q : Nat} {kvs : List (List Key × D)}
theorem gXIn_ref {neg : Bool} {y : D} {k : List Key} (h : m[q]? = some (.dX hs kvs)) (hk : keyX y = some k) : gXIn hs neg y (.ref q) m = .ok (.bl ((valD kvs k).isSome ^^ neg)) m := by
  unfold gXIn xGet
  rw [xOf_ref h, hk]
  rfl
theorem gXGet_ref {y v : D} {k : List Key} (h : m[q]? = some (.dX hs kvs)) (hk : keyX y = some k) (hv : valD kvs k = some v) : gXGet hs (.ref q) y m = .ok v m := by
  unfold gXGet xGet
  rw [xOf_ref h, hk]
  simp only [Option.bind_some, Option.map_some, hv]
theorem xPut_ref {y v : D} {k : List Key} (h : m[q]? = some (.dX hs kvs)) (hk : keyX y = some k) (hl : kvs.length ≤ 100000) : xPut hs (.ref q) y v m = .ok () (m.set q (.dX hs (putD kvs k v))) := by
  unfold xPut
  dsimp only
  rw [xOf_ref h, hk]
  dsimp only
  rw [if_pos (by have : (100000 : Nat) < sizeLine := by decide
                 omega)]
end
end Mir

/-! list.insert, list.clear -/
namespace Mir
open PySem PySem.Spec PyProof.Rows L2
def gClear (d : D) (ds : List D) (m : Mem) : R D := match d, ds with
  | .ref i, [] => match lstC m[i]? with
    | some xs => .ok .non (m.set i (.lst []))
    | none => .stk
  | _, _ => .stk
section
variable {X : Cx} {E : XK}
theorem mm_clear : MtR X "list.clear" (rMM X.K X.mg E gClear) := by
  rintro pins s σ H x xs v us Q I rx rxs ⟨W, m, d, ds, sm, rd, rds, p⟩
  unfold gClear at p
  split at p
  · rename_i i
    obtain ⟨a, rfl, e2⟩ := rd.ref'
    rw [rds.nil'] at rxs
    split at p
    · rename_i zs hl
      obtain ⟨vs, q1, q2⟩ := sm.cell i a _ e2 (cell_of hl)
      have ex : Ext W H W (upd H a (.lst [])) := Ext.mut (List.mem_of_getElem? e2) q1 rfl
      exact mt_clear pins s σ H _ _ v us Q I rx rxs ⟨a, vs, rfl, rfl, q1, p .non W _ ex (sm.mut e2 ⟨_, upd_same, (reps_nil).ext ex⟩) rep_non⟩
    · exact p.elim
  · exact p.elim
end
end Mir

/-! Mir: data that is alike. -/
namespace Mir
open PySem PySem.Spec PyProof.Rows L2
@[simp] theorem kit_int_int : kitB "int" "int" = some true := by decide +kernel
@[simp] theorem kit_int_bool : kitB "int" "bool" = some false := by decide +kernel
@[simp] theorem kit_int_str : kitB "int" "str" = some false := by decide +kernel
@[simp] theorem kit_int_tuple : kitB "int" "tuple" = some false := by decide +kernel
@[simp] theorem kit_int_list : kitB "int" "list" = some false := by decide +kernel
@[simp] theorem kit_bool_int : kitB "bool" "int" = some true := by decide +kernel
@[simp] theorem kit_bool_bool : kitB "bool" "bool" = some true := by decide +kernel
@[simp] theorem kit_bool_str : kitB "bool" "str" = some false := by decide +kernel
@[simp] theorem kit_bool_tuple : kitB "bool" "tuple" = some false := by decide +kernel
@[simp] theorem kit_bool_list : kitB "bool" "list" = some false := by decide +kernel
@[simp] theorem kit_str_int : kitB "str" "int" = some false := by decide +kernel
@[simp] theorem kit_str_bool : kitB "str" "bool" = some false := by decide +kernel
@[simp] theorem kit_str_str : kitB "str" "str" = some true := by decide +kernel
@[simp] theorem kit_str_tuple : kitB "str" "tuple" = some false := by decide +kernel
@[simp] theorem kit_str_list : kitB "str" "list" = some false := by decide +kernel
@[simp] theorem kit_tuple_int : kitB "tuple" "int" = some false := by decide +kernel
@[simp] theorem kit_tuple_bool : kitB "tuple" "bool" = some false := by decide +kernel
@[simp] theorem kit_tuple_str : kitB "tuple" "str" = some false := by decide +kernel
@[simp] theorem kit_tuple_tuple : kitB "tuple" "tuple" = some true := by decide +kernel
@[simp] theorem kit_tuple_list : kitB "tuple" "list" = some false := by decide +kernel
@[simp] theorem kit_list_int : kitB "list" "int" = some false := by decide +kernel
@[simp] theorem kit_list_bool : kitB "list" "bool" = some false := by decide +kernel
@[simp] theorem kit_list_str : kitB "list" "str" = some false := by decide +kernel
@[simp] theorem kit_list_tuple : kitB "list" "tuple" = some false := by decide +kernel
@[simp] theorem kit_list_list : kitB "list" "list" = some true := by decide +kernel
@[simp] theorem kit_NoneType_int : kitB "NoneType" "int" = some false := by decide +kernel
@[simp] theorem kit_NoneType_bool : kitB "NoneType" "bool" = some false := by decide +kernel
@[simp] theorem kit_NoneType_str : kitB "NoneType" "str" = some false := by decide +kernel
@[simp] theorem kit_NoneType_tuple : kitB "NoneType" "tuple" = some false := by decide +kernel
@[simp] theorem kit_NoneType_list : kitB "NoneType" "list" = some false := by decide +kernel
@[simp] theorem ap_isiT (η : Env') (m : Mem) (a : EM) (Ts : List String) : mIsiT Ts a η m = (a η m).bind fun d m1 => optR m1 (((tyNm m1 d).bind fun t => kitsB t Ts).map D.bl) := by
  show (a η m).bind _ = _
  congr
  funext x m1
  cases (tyNm m1 x).bind fun t => kitsB t Ts <;> rfl
@[simp] theorem tyNm_non (m : Mem) : tyNm m .non = some "NoneType" := nr rfl
@[simp] theorem tyNm_bl (m : Mem) (b : Bool) : tyNm m (.bl b) = some "bool" := nr rfl
@[simp] theorem tyNm_int (m : Mem) (i : Int) : tyNm m (.int i) = some "int" := nr rfl
@[simp] theorem tyNm_str (m : Mem) (x : Str) : tyNm m (.str x) = some "str" := nr rfl
@[simp] theorem tyNm_tup (m : Mem) (ds : List D) : tyNm m (.tup ds) = some "tuple" := nr rfl
@[simp] theorem tyNm_lst (m : Mem) (ds : List D) : tyNm m (.lst ds) = some "list" := nr rfl
theorem tyNm_ref {m : Mem} {j : Nat} {l : List D} (h : m[j]? = some (.lst l)) : tyNm m (.ref j) = some "list" := by
  show (match m[j]? with
    | some (.lst _) => some "list"
    | some (.dK _) => some "dict"
    | _ => none) = _
  rw [h]
@[simp] theorem isNon_non : isNon .non = true := nr rfl
@[simp] theorem isNon_bl (b : Bool) : isNon (.bl b) = false := nr rfl
@[simp] theorem isNon_int (i : Int) : isNon (.int i) = false := nr rfl
@[simp] theorem isNon_str (x : Str) : isNon (.str x) = false := nr rfl
@[simp] theorem isNon_tup (ds : List D) : isNon (.tup ds) = false := nr rfl
@[simp] theorem isNon_lst (ds : List D) : isNon (.lst ds) = false := nr rfl
@[simp] theorem isNon_ref (i : Nat) : isNon (.ref i) = false := nr rfl
/-- data with its lists at once -/
def nrm (m : Mem) : Nat → D → Option D
  | 0, _ => none
  | n + 1, .tup ds => if ds.length ≤ 100000 then (mapO (nrm m n) ds).map .tup else none
  | n + 1, .lst ds => if ds.length ≤ 100000 then (mapO (nrm m n) ds).map .lst else none
  | n + 1, .ref i => match m[i]? with
    | some (.lst ds) => if ds.length ≤ 100000 then (mapO (nrm m n) ds).map .lst else none
    | _ => none
  | _ + 1, .scr _ => none
  | _ + 1, .fn _ => none
  | _ + 1, .non => some .non
  | _ + 1, .bl b => some (.bl b)
  | _ + 1, .int i => some (.int i)
  | _ + 1, .str x => some (.str x)
theorem lcl_still {src : Src} {g : GM} {t : TM} {e : EM} {η : Env'} {m : Mem} {ds : List D} (f : D → D) (h : ∀ k, k ≤ ds.length → src k m = some ds[k]?) (ht : ∀ d ∈ ds, ∃ η1, g d η m = .ok η1 m ∧ t η1 m = .ok true m ∧ e η1 m = .ok (f d) m) :
    ∀ (n k : Nat) (acc : List D), n + k = ds.length → acc.length + n ≤ sizeLine → mLcL src g t e η n k m acc = .ok (acc ++ (ds.drop k).map f) m
  | 0, k, acc, hn, _ => by
    unfold mLcL
    have hk : ds[k]? = none := List.getElem?_eq_none (by omega)
    rw [h k (by omega), hk]
    simp only
    rw [List.drop_of_length_le (by omega)]
    simp
  | n + 1, k, acc, hn, hl => by
    unfold mLcL
    have hk : ds[k]? = some ds[k] := List.getElem?_eq_getElem (by omega)
    rw [h k (by omega), hk]
    obtain ⟨η1, h1, h2, h3⟩ := ht ds[k] (List.getElem_mem _)
    simp only [h1, h2, h3, noX_ok, bind_ok, if_true]
    rw [if_pos (by omega), lcl_still f h ht n (k + 1) (acc ++ [f ds[k]]) (by omega) (by simp; omega)]
    rw [List.append_assoc, List.drop_eq_getElem_cons (by omega : k < ds.length)]
    rfl
theorem mapO_len {α β : Type} {f : α → Option β} : ∀ {l : List α} {r : List β}, mapO f l = some r → r.length = l.length
  | [], r, h => by cases h; rfl
  | a :: l, r, h => by
    obtain ⟨b, bs, rfl, h1, h2⟩ := mapO_cons h
    simp [mapO_len h2]
theorem mapO_get {α β : Type} {f : α → Option β} : ∀ {l : List α} {r : List β}, mapO f l = some r → ∀ (k : Nat) (a : α), l[k]? = some a → ∃ b, r[k]? = some b ∧ f a = some b
  | [], r, h, k, a, e => by simp at e
  | x :: l, r, h, 0, a, e => by
    obtain ⟨b, bs, rfl, h1, h2⟩ := mapO_cons h
    simp at e
    subst e
    exact ⟨b, rfl, h1⟩
  | x :: l, r, h, k + 1, a, e => by
    obtain ⟨b, bs, rfl, h1, h2⟩ := mapO_cons h
    obtain ⟨b', e1, e2⟩ := mapO_get h2 k a (by simpa using e)
    exact ⟨b', by simpa using e1, e2⟩
theorem mem_zipD {xs ys : List D} {d : D} (h : d ∈ zipD xs ys) : ∃ (k : Nat) (a b : D), xs[k]? = some a ∧ ys[k]? = some b ∧ d = .tup [a, b] := by
  obtain ⟨k, hk⟩ := List.mem_iff_getElem?.mp h
  unfold zipD at hk
  rw [List.getElem?_zipWith] at hk
  cases hx : xs[k]? with
  | none => rw [hx] at hk; cases hk
  | some a =>
    cases hy : ys[k]? with
    | none => rw [hx, hy] at hk; cases hk
    | some b =>
      rw [hx, hy] at hk
      cases hk
      exact ⟨k, a, b, hx, hy, rfl⟩
theorem strOk_S {l : List Nat} (h : ∀ c ∈ l, c < 1114112) : PyData.strOk (SX.S l) = true := by
  unfold PyData.strOk
  rw [Array.all_eq_true']
  intro c hc
  simp [SX.S] at hc
  exact decide_eq_true (h c hc)
namespace Y
theorem alike_seq {m : Mem} {n : Nat} {d1 d2 : D} {ds1 ds2 es : List D} (ih : ∀ a b e, nrm m n a = some e → nrm m n b = some e → m__law_alike n [a, b] m = .ok (.bl true) m)
    (h1 : rdS1 d1 m = some ds1) (h2 : rdS1 d2 m = some ds2) (k1 : mapO (nrm m n) ds1 = some es) (k2 : mapO (nrm m n) ds2 = some es) (hl : ds1.length ≤ 100000) (b1 : bLen [d1] m = .ok (.int (ds1.length : Nat)) m) (b2 : bLen [d2] m = .ok (.int (ds2.length : Nat)) m) {P : D → Mem → Prop} (hP : P (.bl true) m) (x2 x3 : Option D) :
    TriS (b__law_alike_0s1 (m__law_alike n) [some d1, some d2, x2, x3] m) (fun _ _ => False) P := by
  have hlen : ds1.length = ds2.length := by rw [← mapO_len k1, ← mapO_len k2]
  have hsz : ds1.length ≤ sizeLine := size_le (by omega)
  simp [b__law_alike_0s1, b1, b2, hlen, b__law_alike_0s2]
  have hz : zipR d1 d2 m = .ok (srcZ (rdS1 d1) (rdS1 d2), min ds1.length ds2.length) m := by
    unfold zipR
    rw [h1, h2]
  rw [hz]
  simp only [tri_ok]
  have hlz : min ds1.length ds2.length = (zipD ds1 ds2).length := (zipD_length _ _).symm
  have hsrc : ∀ k, k ≤ (zipD ds1 ds2).length → srcZ (rdS1 d1) (rdS1 d2) k m = some (zipD ds1 ds2)[k]? := by
    intro k hk
    have := srcZ_pure (f := fun _ => some ds1) (g := fun _ => some ds2) (fun _ => rfl) (fun _ => rfl) k m hk
    rw [← this]
    unfold srcZ
    rw [h1, h2]
  rw [lcl_still (fun _ => D.bl true) hsrc (fun d hd => by
    obtain ⟨k, a, b, q1, q2, rfl⟩ := mem_zipD hd
    obtain ⟨e1, r1, r2⟩ := mapO_get k1 k _ q1
    obtain ⟨e2, r3, r4⟩ := mapO_get k2 k _ q2
    rw [r1] at r3
    cases r3
    refine ⟨_, rfl, rfl, ?_⟩
    simp [wipeE, ih _ _ _ r2 r4]) _ 0 [] (by rw [hlz]; rfl) (by rw [hlz, zipD_length]; simp; omega)]
  simp only [tri_ok, List.nil_append, List.drop_zero]
  have hm : (zipD ds1 ds2).map (fun _ => D.bl true) = ((zipD ds1 ds2).map (fun _ => true)).map .bl := by rw [List.map_map]; rfl
  rw [hm, bAll_bls]
  have : ((zipD ds1 ds2).map (fun _ => true)).all id = true := by simp
  rw [this]
  exact hP
theorem alike_of {m : Mem} : ∀ (n : Nat) (d1 d2 e : D), nrm m n d1 = some e → nrm m n d2 = some e → m__law_alike n [d1, d2] m = .ok (.bl true) m
  | 0, d1, d2, e, h, _ => by cases h
  | n + 1, d1, d2, e, h1, h2 => by
    have ih := alike_of (m := m) n
    have key : Tri (m__law_alike (n + 1) [d1, d2] m) (fun d m' => d = .bl true ∧ m' = m) := by
      refine tri_fn rfl ?_
      have fin : ∀ {N : Env' → Mem → Prop} {r : RS} {Q : D → Mem → Prop}, TriS r (fun _ _ => False) Q → TriS r N Q := fun h => h.mono (fun _ _ z => z.elim) (fun _ _ z => z)
      have okP : (fun (d : D) (m' : Mem) => d = .bl true ∧ m' = m) (.bl true) m := ⟨rfl, rfl⟩
      -- lists
      have lst : ∀ (ds1 ds2 es : List D), rdS1 d1 m = some ds1 → rdS1 d2 m = some ds2 → tyNm m d1 = some "list" → tyNm m d2 = some "list" → mapO (nrm m n) ds1 = some es → mapO (nrm m n) ds2 = some es → ds1.length ≤ 100000 → bLen [d1] m = .ok (.int (ds1.length : Nat)) m → bLen [d2] m = .ok (.int (ds2.length : Nat)) m → TriS (b__law_alike (m__law_alike n) ([d1, d2].map some ++ List.replicate (4 - 2) none) m) (fun _ m' => D.non = .bl true ∧ m' = m) (fun d m' => d = .bl true ∧ m' = m) := by
        intro ds1 ds2 es a1 a2 t1 t2 k1 k2 hl b1 b2
        simp [b__law_alike, t1, t2, kitsB, b__law_alike_0]
        exact fin (alike_seq ih a1 a2 k1 k2 hl b1 b2 okP _ _)
      have asL : ∀ (d : D) (es : List D), nrm m (n + 1) d = some (.lst es) → ∃ ds, rdS1 d m = some ds ∧ tyNm m d = some "list" ∧ mapO (nrm m n) ds = some es ∧ ds.length ≤ 100000 ∧ bLen [d] m = .ok (.int (ds.length : Nat)) m := by
        intro d es h
        cases d with
        | lst ds =>
          simp only [nrm] at h
          split at h
          · rename_i hl
            cases hm : mapO (nrm m n) ds with
            | none => rw [hm] at h; cases h
            | some r => rw [hm] at h; cases h; exact ⟨ds, rfl, rfl, hm, hl, rfl⟩
          · cases h
        | ref j =>
          simp only [nrm] at h
          cases hj : m[j]? with
          | none => rw [hj] at h; cases h
          | some c =>
            rw [hj] at h
            cases c with
            | lst ds =>
              simp only at h
              split at h
              · rename_i hl
                cases hm : mapO (nrm m n) ds with
                | none => rw [hm] at h; cases h
                | some r =>
                  rw [hm] at h
                  cases h
                  exact ⟨ds, by show lstC m[j]? = _; rw [hj]; rfl, tyNm_ref hj, hm, hl, len_ref hj⟩
              · cases h
            | _ => cases h
        | tup ds =>
          simp only [nrm] at h
          split at h
          · cases hm : mapO (nrm m n) ds with
            | none => rw [hm] at h; cases h
            | some r => rw [hm] at h; cases h
          · cases h
        | _ => simp [nrm] at h
      have asT : ∀ (d : D) (es : List D), nrm m (n + 1) d = some (.tup es) → ∃ ds, d = .tup ds ∧ mapO (nrm m n) ds = some es ∧ ds.length ≤ 100000 := by
        intro d es h
        cases d with
        | tup ds =>
          simp only [nrm] at h
          split at h
          · rename_i hl
            cases hm : mapO (nrm m n) ds with
            | none => rw [hm] at h; cases h
            | some r => rw [hm] at h; cases h; exact ⟨ds, rfl, hm, hl⟩
          · cases h
        | lst ds =>
          simp only [nrm] at h
          split at h
          · cases hm : mapO (nrm m n) ds with
            | none => rw [hm] at h; cases h
            | some r => rw [hm] at h; cases h
          · cases h
        | ref j =>
          simp only [nrm] at h
          split at h
          · split at h
            · rename_i ds _ _
              cases hm : mapO (nrm m n) ds with
              | none => rw [hm] at h; cases h
              | some r => rw [hm] at h; cases h
            · cases h
          · cases h
        | _ => simp [nrm] at h
      have asF : ∀ (d : D), nrm m (n + 1) d = some e → (∀ es, e ≠ .lst es) → (∀ es, e ≠ .tup es) → d = e := by
        intro d h n1 n2
        cases d with
        | tup ds =>
          simp only [nrm] at h
          split at h
          · cases hm : mapO (nrm m n) ds with
            | none => rw [hm] at h; cases h
            | some r => rw [hm] at h; cases h; exact absurd rfl (n2 r)
          · cases h
        | lst ds =>
          simp only [nrm] at h
          split at h
          · cases hm : mapO (nrm m n) ds with
            | none => rw [hm] at h; cases h
            | some r => rw [hm] at h; cases h; exact absurd rfl (n1 r)
          · cases h
        | ref j =>
          simp only [nrm] at h
          split at h
          · split at h
            · rename_i ds _ _
              cases hm : mapO (nrm m n) ds with
              | none => rw [hm] at h; cases h
              | some r => rw [hm] at h; cases h; exact absurd rfl (n1 r)
            · cases h
          · cases h
        | scr ds => simp [nrm] at h
        | fn x => simp [nrm] at h
        | non => simpa [nrm] using h
        | bl b => simpa [nrm] using h
        | int i => simpa [nrm] using h
        | str x => simpa [nrm] using h
      cases e with
      | lst es =>
        obtain ⟨ds1, a1, t1, k1, l1, b1⟩ := asL d1 es h1
        obtain ⟨ds2, a2, t2, k2, l2, b2⟩ := asL d2 es h2
        exact lst ds1 ds2 es a1 a2 t1 t2 k1 k2 l1 b1 b2
      | tup es =>
        obtain ⟨ds1, rfl, k1, l1⟩ := asT d1 es h1
        obtain ⟨ds2, rfl, k2, l2⟩ := asT d2 es h2
        simp [b__law_alike, kitsB, b__law_alike_0]
        exact fin (alike_seq ih rfl rfl k1 k2 l1 rfl rfl okP _ _)
      | non =>
        have e1 := asF d1 h1 (by simp) (by simp)
        have e2 := asF d2 h2 (by simp) (by simp)
        subst e1; subst e2
        simp [b__law_alike, kitsB, b__law_alike_s1, gEq, flatD, scal]
      | bl b =>
        have e1 := asF d1 h1 (by simp) (by simp)
        have e2 := asF d2 h2 (by simp) (by simp)
        subst e1; subst e2
        simp [b__law_alike, kitsB, b__law_alike_s1, b__law_alike_s2]
      | int b =>
        have e1 := asF d1 h1 (by simp) (by simp)
        have e2 := asF d2 h2 (by simp) (by simp)
        subst e1; subst e2
        simp [b__law_alike, kitsB, b__law_alike_s1, b__law_alike_s2]
      | str b =>
        have e1 := asF d1 h1 (by simp) (by simp)
        have e2 := asF d2 h2 (by simp) (by simp)
        subst e1; subst e2
        simp [b__law_alike, kitsB, b__law_alike_s1]
      | scr ds => 
        have e1 := asF d1 h1 (by simp) (by simp)
        subst e1
        simp [nrm] at h1
      | fn x =>
        have e1 := asF d1 h1 (by simp) (by simp)
        subst e1
        simp [nrm] at h1
      | ref j =>
        have e1 := asF d1 h1 (by simp) (by simp)
        subst e1
        simp only [nrm] at h1
        split at h1
        · split at h1
          · rename_i ds _ _
            cases hm : mapO (nrm m n) ds with
            | none => rw [hm] at h1; cases h1
            | some r => rw [hm] at h1; cases h1
          · cases h1
        · cases h1
    obtain ⟨d, m', e, rfl, rfl⟩ := key.ex
    exact e
end Y
end Mir

/-! Mir: what the laws' shared drawing functions tell. -/
namespace Mir
open PySem PySem.Spec PyProof.Rows L2
/-! ### texts cut -/
theorem cut_take (l : List Nat) (k : Nat) : cutS (SX.S l) none (some (k : Nat)) = SX.S (l.take k) := by
  unfold cutS
  rw [SX.S_len, HT.sIx_nat]
  have h1 : HT.sIx l.length 0 none = 0 := rfl
  rw [h1]
  show SX.S _ = _
  congr 1
  simp
theorem cut_drop (l : List Nat) (k : Nat) : cutS (SX.S l) (some (k : Nat)) none = SX.S (l.drop k) := by
  unfold cutS
  rw [SX.S_len, HT.sIx_nat]
  have h1 : HT.sIx l.length l.length none = l.length := rfl
  rw [h1]
  show SX.S _ = _
  congr 1
  simp
  by_cases h : k ≤ l.length
  · rw [Nat.min_eq_left h]
    exact List.take_of_length_le (by simp)
  · rw [Nat.min_eq_right (by omega), List.drop_of_length_le (Nat.le_refl _), List.drop_of_length_le (by omega)]
    simp
theorem S_append (a b : List Nat) : SX.S a ++ SX.S b = SX.S (a ++ b) := by
  show Str.mk (a.toArray ++ b.toArray) = _
  simp [SX.S]
theorem S_cps (a : List Nat) : (SX.S a).cps.toList = a := rfl
theorem S_of (x : Str) : SX.S x.cps.toList = x := by cases x; rfl
theorem lt_app : ∀ {a b : List Nat} (s t : List Nat), a.length = b.length → a < b → a ++ s < b ++ t
  | [], [], s, t, _, h => absurd h (List.lt_irrefl _)
  | x :: a, y :: b, s, t, hl, h => by
    rw [List.cons_append, List.cons_append]
    rw [List.cons_lt_cons_iff] at h ⊢
    rcases h with h | ⟨rfl, h⟩
    · exact .inl h
    · exact .inr ⟨rfl, lt_app s t (by simpa using hl) h⟩
/-! ### names -/
def letL : List Nat := [97, 98, 99, 100, 101, 102, 103, 104, 105, 106, 107, 108, 109, 110, 111, 112, 113, 114, 115, 116, 117, 118, 119, 120, 121, 122]
theorem letL_eq : letL = (List.range 26).map (· + 97) := by decide
theorem letL_mem (c : Nat) : c ∈ letL ↔ 97 ≤ c ∧ c ≤ 122 := by
  rw [letL_eq]
  simp
  constructor
  · rintro ⟨a, ha, rfl⟩; omega
  · intro h; exact ⟨c - 97, by omega, by omega⟩
theorem let_S : Str.ofString "abcdefghijklmnopqrstuvwxyz" = SX.S letL := by decide +kernel
def keptW : List Str := [Str.ofString "deeds", Str.ofString "room", Str.ofString "heap", Str.ofString "map", Str.ofString "yard"]
structure Nm (x : Str) : Prop where
  lo : 1 ≤ x.length
  hi : x.length ≤ 6
  let' : ∀ c ∈ x.cps.toList, c ∈ letL
  kept : x ∉ keptW
def ltS (a b : Str) : Prop := a.cps.toList < b.cps.toList
structure Nms (ns : List Str) : Prop where
  nm : ∀ x ∈ ns, Nm x
  up : ns.Pairwise ltS
def addq (x : Str) : Str := if x ∈ keptW then x ++ Str.ofString "q" else x
theorem kept_len {x : Str} (h : x ∈ keptW) : 3 ≤ x.length ∧ x.length ≤ 5 := by
  simp only [keptW, List.mem_cons, List.not_mem_nil, or_false] at h
  rcases h with rfl | rfl | rfl | rfl | rfl <;> decide
theorem kept_q {x : Str} (h : x ∈ keptW) : x ++ Str.ofString "q" ∉ keptW := by
  simp only [keptW, List.mem_cons, List.not_mem_nil, or_false] at h
  rcases h with rfl | rfl | rfl | rfl | rfl <;> decide +kernel
theorem q_S : Str.ofString "q" = SX.S [113] := by decide +kernel
theorem addq_nm {x : Str} (h1 : 1 ≤ x.length) (h2 : x.length ≤ 6) (h3 : ∀ c ∈ x.cps.toList, c ∈ letL) : Nm (addq x) := by
  unfold addq
  split
  · rename_i hk
    refine ⟨?_, ?_, fun c hc => ?_, kept_q hk⟩
    · rw [slen]; omega
    · have := (kept_len hk).2
      rw [slen]
      show _ + 1 ≤ 6
      omega
    · have hc : c ∈ (x.cps ++ (Str.ofString "q").cps).toList := hc
      rw [Array.toList_append, List.mem_append] at hc
      rcases hc with hc | hc
      · exact h3 c hc
      · rw [q_S, S_cps] at hc
        simp at hc
        subst hc
        decide
  · rename_i hk
    exact ⟨h1, h2, h3, hk⟩
theorem addq_lt {a b : Str} (hl : a.length = b.length) (h : ltS a b) : ltS (addq a) (addq b) := by
  have hl' : a.cps.toList.length = b.cps.toList.length := by rw [cps_len, cps_len]; exact hl
  unfold ltS addq
  have e : ∀ x : Str, (x ++ Str.ofString "q").cps.toList = x.cps.toList ++ [113] := fun x => by
    rw [q_S]
    show (x.cps ++ [113].toArray).toList = _
    simp
  split <;> split
  · rw [e, e]; exact lt_app _ _ hl' h
  · rw [e]
    have := lt_app [113] [] hl' h
    rwa [List.append_nil] at this
  · rw [e]
    have := lt_app [] [113] hl' h
    rwa [List.append_nil] at this
  · exact h
theorem le_ne_lt {a b : Str} (h : leS a b) (hn : a ≠ b) : ltS a b := by
  unfold leS at h
  unfold ltS
  by_cases hlt : a.cps.toList < b.cps.toList
  · exact hlt
  · exact absurd (leS_antisymm h hlt) hn
theorem sortS_lt {l : List Str} (h : l.Nodup) : (sortS l).Pairwise ltS := by
  have h1 := sortS_sorted l
  have h2 : (sortS l).Nodup := (sortS_perm l).symm.nodup h
  exact List.Pairwise.imp₂ (fun a b h1 h2 => le_ne_lt h1 h2) h1 h2
namespace Y
theorem pick_y {m : Mem} {i : Nat} {n : Int} (hf : FlowAt m i) (hn : 0 < n) (hb : n ≤ 1000000) : Tri (m__law_pick [.ref i, .int n] m) (fun d m' => ∃ k : Nat, d = .int (k : Nat) ∧ (k : Int) < n ∧ Flo m m' i) := pick_flo hf hn (by omega)
theorem pick_then {m : Mem} {i : Nat} {n : Int} {P : D → Mem → Prop} (hf : FlowAt m i) (hn : 0 < n) (hb : n ≤ 1000000) (h : ∀ (k : Nat) m', (k : Int) < n → Flo m m' i → P (.int (k : Nat)) m') : Tri (m__law_pick [.ref i, .int n] m) P :=
  (pick_y hf hn hb).mono fun d m' ⟨k, e, h1, h2⟩ => by
    rw [e]
    exact h k m' h1 h2
theorem flow_y (ns : List Int) (hl : ns.length ≤ 63) : ∃ m, m__law_flow [.scr (ns.map .int)] [] = .ok (.ref 0) m ∧ FlowAt m 0 := by
  refine ⟨[.lst [.lst (ns.map .int), .int 0, .int 0, .int 1, .int 0]], ?_, _, rfl, ns, 0, 0, 1, 0, rfl, by decide, by decide, by decide, by decide⟩
  have key : Tri (m__law_flow [.scr (ns.map .int)] []) (fun d m' => d = .ref 0 ∧ m' = [.lst [.lst (ns.map .int), .int 0, .int 0, .int 1, .int 0]]) := by
    refine tri_fn rfl ?_
    have h5 : 5 ≤ sizeLine := size_le (by decide)
    have hl2 : ns.length ≤ sizeLine := size_le (by omega)
    simp [b__law_flow, bList, seqOf, lstOf, lR, h5, hl2]
  obtain ⟨d, m', e, rfl, rfl⟩ := key.ex
  exact e
theorem atI_nat {α : Type} {l : List α} {k : Nat} {x : α} (h : l[k]? = some x) : atI l (k : Nat) = some x := by
  unfold atI ixN
  have := (List.getElem?_eq_some_iff.mp h).1
  rw [if_pos (by omega), if_pos (by omega)]
  simpa using h
theorem letL_get {k : Nat} (h : k < 26) : letL[k]? = some (k + 97) := by
  rw [letL_eq]
  simp [h]
theorem gIx_let {k : Nat} (h : k < 26) (m : Mem) : gIx (.str (SX.S letL)) (.int (k : Nat)) m = .ok (.str ⟨#[k + 97]⟩) m := gIx_str (by decide) (atI_nat (letL_get h))
theorem gIn_kept {x : Str} {neg : Bool} {m : Mem} : gIn neg (.str x) (.tup [.str (Str.ofString "deeds"), .str (Str.ofString "room"), .str (Str.ofString "heap"), .str (Str.ofString "map"), .str (Str.ofString "yard")]) m = .ok (.bl (decide (x ∈ keptW) ^^ neg)) m := gIn_tstrs (ys := keptW)
theorem rng_nat {n : Nat} (h : n ≤ 1000000) (m : Mem) : rng1R (.int (n : Nat)) m = .ok (srcLP (rngD 0 n)) m := by
  rw [rng1R_int _ _ (by omega) (by omega), Int.toNat_natCast]
/-- a text of drawn letters -/
theorem letters_draw {m : Mem} {i n : Nat} {η : Env'} {j q : Nat} (hf : FlowAt m i) (hn : n ≤ 1000) (h0 : ∀ d, (η.set j (some d))[0]? = some (some (.ref i))) (hq : ∀ d, (η.set j (some d))[q]? = some (some (.str (SX.S letL)))) :
    Tri (compD (gNm j) mYes (mOp gIx (mVar q) (mCall m__law_pick (mCons (mVar 0) (mCons (mC (.int 26)) mNil)))) η (rngD 0 n) m []) (fun acc m' => ∃ cs : List Nat, acc = cs.map (fun c => D.str ⟨#[c]⟩) ∧ cs.length = n ∧ (∀ c ∈ cs, c ∈ letL) ∧ Flo m m' i) := by
  refine (comp_draw (fun c => D.str ⟨#[c]⟩) (fun c => c ∈ letL) hf (by simp; omega) ?_).mono ?_
  · intro d m' hd hfl
    simp [h0, hq]
    refine (pick_y hfl.at (n := 26) (by decide) (by decide)).mono ?_
    rintro _ m2 ⟨k, rfl, hk, hfl2⟩
    have hk : k < 26 := by omega
    rw [gIx_let hk]
    refine ⟨k + 97, rfl, ?_, hfl.trans hfl2⟩
    rw [letL_mem]
    omega
  · rintro acc m' ⟨cs, e, hl, hP, hfl⟩
    exact ⟨cs, e, by simpa using hl, hP, hfl⟩
theorem join_letters {cs : List Nat} {m : Mem} (h : cs.length ≤ 1000) : gJoin (.str (Str.ofString "")) [.lst (cs.map fun c => D.str ⟨#[c]⟩)] m = .ok (.str (SX.S cs)) m := gJoin_chars (by omega)
def baseN (tl : List Nat) (at' turn : Nat) (k : Nat) : List Nat := tl.take at' ++ [97 + (turn + 7 * k) % 26] ++ tl.drop at'
theorem append_empty (x : Str) : x ++ Str.empty = x := by
  cases x
  rename_i a
  show Str.mk (a ++ #[]) = _
  simp
theorem baseN_len (tl : List Nat) (a t k : Nat) : (baseN tl a t k).length = tl.length + 1 := by
  unfold baseN
  simp
  omega
theorem baseN_let {tl : List Nat} {a t k : Nat} (h : ∀ c ∈ tl, c ∈ letL) : ∀ c ∈ baseN tl a t k, c ∈ letL := by
  intro c hc
  unfold baseN at hc
  rw [List.mem_append, List.mem_append] at hc
  rcases hc with (hc | hc) | hc
  · exact h c (List.mem_of_mem_take hc)
  · simp at hc
    subst hc
    rw [letL_mem]
    omega
  · exact h c (List.mem_of_mem_drop hc)
theorem baseN_inj {tl : List Nat} {a t j k : Nat} (hj : j < 26) (hk : k < 26) (h : baseN tl a t j = baseN tl a t k) : j = k := by
  unfold baseN at h
  rw [List.append_assoc, List.append_assoc] at h
  have h := List.append_cancel_left h
  simp at h
  omega
theorem bInt_b (b : Bool) (m : Mem) : bInt [.bl b] m = .ok (.int (if b then 1 else 0)) m := rfl
theorem gMulS_q (b : Bool) (m : Mem) : gMulS (.str (Str.ofString "q")) (.int (if b then 1 else 0)) m = .ok (.str (if b then Str.ofString "q" else Str.empty)) m := by
  cases b <;> rfl
theorem gMulI_7 (k : Nat) (m : Mem) : gMulI (.int 7) (.int (k : Nat)) m = .ok (.int (7 * (k : Int))) m := by
  show (if mulOk 7 (k : Nat) then R.ok (D.int (7 * (k : Nat))) m else R.stk) = _
  rw [if_pos (.inl (by decide))]
theorem gMod_nat {a b : Nat} (hb : 0 < b) (m : Mem) : gMod (.int (a : Nat)) (.int (b : Nat)) m = .ok (.int ((a % b : Nat) : Int)) m := by
  rw [gMod_pos (by omega)]; simp
theorem rngD_nat (n : Nat) : rngD 0 n = (List.range n).map fun k => D.int ((k : Nat) : Int) := by
  unfold rngD
  simp
theorem bSorted_strs {xs : List Str} {m : Mem} (h : xs.length < 64) : bSortedS false [.lst (xs.map .str)] m = .ok (.lst ((sortS xs).map .str)) m := by
  unfold bSortedS
  have e : (lstOf m (.lst (xs.map .str))).bind (mapO strOf) = some xs := by
    show mapO strOf (xs.map .str) = _
    have := mapO_map (f := strOf) (g := D.str) (h := id) (fun _ => rfl) xs
    rw [List.map_id] at this
    exact this
  simp only [e, if_pos h, mkL_f]
theorem names_then {m : Mem} {i n : Nat} {P : D → Mem → Prop} (hf : FlowAt m i) (hn : n ≤ 26) (h : ∀ (ns : List Str) m', ns.length = n → Nms ns → Flo m m' i → P (.tup (ns.map .str)) m') : Tri (m__law_names [.ref i, .int (n : Nat)] m) P := by
  refine tri_fn rfl ?_
  simp [b__law_names, let_S, b__law_names_s1, isTy]
  refine pick_then hf (by decide) (by decide) fun k m1 hk hfl => ?_
  simp [-rng1R_int, rng_nat (n := k) (by omega)]
  refine (letters_draw (n := k) hfl.at (by omega) (fun d => rfl) (fun d => rfl)).mono ?_
  rintro _ m2 ⟨tl, rfl, htl, hlet, hfl2⟩
  simp [join_letters (m := m2) (cs := tl) (by omega), b__law_names_s2, bLen_str (x := SX.S tl) (m := m2) (by rw [SX.S_len]; omega)]
  refine pick_then hfl2.at (by omega) (by omega) fun a m3 ha hfl3 => ?_
  refine pick_then hfl3.at (by decide) (by decide) fun t m4 ht hfl4 => ?_
  have hfl := ((hfl.trans hfl2).trans hfl3).trans hfl4
  simp [b__law_names_s3, -rng1R_int, rng_nat (n := n) (by omega)]
  rw [rngD_nat, comp_mapT (fun k : Nat => D.int (k : Nat)) (fun k => D.str (SX.S (baseN tl a t k))) (List.range n) [] (fun k hk => by
    refine ⟨_, rfl, rfl, ?_⟩
    have h26 : (t + 7 * k) % 26 < 26 := Nat.mod_lt _ (by decide)
    have e1 : ∀ m, gMod (.int ((t : Int) + 7 * (k : Int))) (.int 26) m = .ok (.int (((t + 7 * k) % 26 : Nat) : Int)) m := fun m => by
      have := gMod_nat (a := t + 7 * k) (b := 26) (by decide) m
      simpa using this
    have sl : ∀ lo hi m, gSl false (.str (SX.S tl)) lo hi m = .ok (.str (cutS (SX.S tl) lo hi)) m := fun lo hi m => gSl_str (by rw [SX.S_len]; omega)
    have cc : ∀ c, (⟨#[c]⟩ : Str) = SX.S [c] := fun _ => rfl
    have l1 : (tl.take a).length ≤ 6 := by rw [List.length_take]; omega
    have l2 : (tl.drop a).length ≤ 6 := by rw [List.length_drop]; omega
    have a1 := fun m => gAdd_str (al := false) (m := m) (x := SX.S (tl.take a)) (y := SX.S [(t + 7 * k) % 26 + 97]) (by rw [SX.S_len, SX.S_len, List.length_singleton]; omega)
    have a2 := fun m => gAdd_str (al := false) (m := m) (x := SX.S (tl.take a) ++ SX.S [(t + 7 * k) % 26 + 97]) (y := SX.S (tl.drop a)) (by rw [slen, SX.S_len, SX.S_len, SX.S_len, List.length_singleton]; omega)
    simp only [wipeE, ap_op, ap_sl, ap_mVar, ap_noPart, ap_part, ap_c, List.set_cons_succ, List.set_cons_zero, List.getElem?_cons_succ, List.getElem?_cons_zero, varR_ok, bind_ok, partR_int, sl, cut_take, cut_drop, gMulI_7, gAdd_int, gIx_let h26, cc, a1, a2, e1]
    rw [S_append, S_append]
    unfold baseN
    rw [Nat.add_comm _ 97]) (by simp; omega)]
  have hnd : ((List.range n).map fun k => SX.S (baseN tl a t k)).Nodup := by
    show List.Pairwise _ _
    rw [List.pairwise_map]
    refine List.Pairwise.imp_of_mem (fun hx hy hne e => hne ?_) (List.nodup_range (n := n))
    exact baseN_inj (by simp at hx; omega) (by simp at hy; omega) (SX.S_inj e)
  have e2 : (List.range n).map (fun k => D.str (SX.S (baseN tl a t k))) = ((List.range n).map fun k => SX.S (baseN tl a t k)).map .str := by rw [List.map_map]; rfl
  simp only [List.nil_append, tri_ok, mkL_f, bind_ok, e2]
  rw [bSorted_strs (by simp; omega)]
  generalize hL : ((List.range n).map fun k => SX.S (baseN tl a t k)) = L at hnd
  have hall : ∀ x ∈ L, x.length = tl.length + 1 ∧ ∀ c ∈ x.cps.toList, c ∈ letL := by
    intro x hx
    rw [← hL] at hx
    obtain ⟨k, _, rfl⟩ := List.mem_map.mp hx
    exact ⟨by rw [SX.S_len, baseN_len], baseN_let hlet⟩
  have hlen : L.length = n := by rw [← hL]; simp
  have hp := sortS_perm L
  have hall2 : ∀ x ∈ sortS L, x.length = tl.length + 1 ∧ ∀ c ∈ x.cps.toList, c ∈ letL := fun x hx => hall x (hp.mem_iff.mp hx)
  have hlen2 : (sortS L).length = n := by rw [hp.length_eq, hlen]
  simp [b__law_names_s4]
  rw [comp_mapT D.str (fun x => D.str (addq x)) (sortS L) [] (fun x hx => by
    refine ⟨_, rfl, rfl, ?_⟩
    have hxl := (hall2 x hx).1
    simp [wipeE, gIn_kept, bInt_b, gMulS_q]
    unfold addq
    by_cases hk : x ∈ keptW
    · simp [hk]
      exact gAdd_str (al := false) (m := m4) (x := x) (y := Str.ofString "q") (by show _ + 1 ≤ _; omega)
    · simp [hk]
      have := gAdd_str (al := false) (m := m4) (x := x) (y := Str.empty) (by show _ + 0 ≤ _; omega)
      rw [append_empty] at this
      exact this) (by simp; omega)]
  have e3 : (sortS L).map (fun x => D.str (addq x)) = ((sortS L).map addq).map .str := by rw [List.map_map]; rfl
  simp only [List.nil_append, tri_ok, mkL_f, bind_ok, e3, bTuple_lst]
  refine h _ m4 (by rw [List.length_map, hlen2]) ⟨fun x hx => ?_, ?_⟩ hfl
  · obtain ⟨y, hy, rfl⟩ := List.mem_map.mp hx
    have := hall2 y hy
    exact addq_nm (by omega) (by omega) this.2
  · rw [List.pairwise_map]
    refine List.Pairwise.imp_of_mem (fun ha hb hlt => addq_lt ?_ hlt) (sortS_lt hnd)
    rw [(hall2 _ ha).1, (hall2 _ hb).1]
end Y
/-! ### heaps, yards -/
structure Hea where
  s : Int
  t : List Int
  l : List Int
def iT (xs : List Int) : D := .tup (xs.map .int)
def sT (xs : List Str) : D := .tup (xs.map .str)
def heaD (h : Hea) : D := .tup [.int h.s, iT h.t, iT h.l]
structure Yar where
  d : List Str
  h : List Hea
def yarD (y : Yar) : D := .tup [sT y.d, .tup (y.h.map heaD)]
structure OkHea (n : Nat) (b : Int) (h : Hea) : Prop where
  s0 : 0 ≤ h.s
  s1 : h.s ≤ b
  tl : h.t.length = n
  ll : h.l.length = n
  t : ∀ x ∈ h.t, 0 ≤ x ∧ x ≤ b
  l : ∀ x ∈ h.l, 0 ≤ x ∧ x ≤ b
structure OkYar (y : Yar) : Prop where
  nm : Nms y.d
  few : y.d.length ≤ 5
  hp : ∀ h ∈ y.h, OkHea y.d.length 50 h
  fewh : y.h.length ≤ 12
theorem OkHea.mono {n : Nat} {b c : Int} {h : Hea} (k : OkHea n b h) (hbc : b ≤ c) : OkHea n c h :=
  ⟨k.s0, Int.le_trans k.s1 hbc, k.tl, k.ll, fun x hx => ⟨(k.t x hx).1, Int.le_trans (k.t x hx).2 hbc⟩, fun x hx => ⟨(k.l x hx).1, Int.le_trans (k.l x hx).2 hbc⟩⟩
theorem Tri.imp {α : Type} {r : R α} {P Q : α → Mem → Prop} (h : Tri r P) (k : ∀ a m, P a m → Q a m) : Tri r Q := h.mono k
namespace Y
theorem map_erase {α β : Type} (f : α → β) : ∀ (l : List α) (k : Nat), (l.map f).eraseIdx k = (l.eraseIdx k).map f
  | [], k => by simp
  | x :: l, 0 => rfl
  | x :: l, k + 1 => by
    show f x :: (l.map f).eraseIdx k = f x :: (l.eraseIdx k).map f
    rw [map_erase f l k]
theorem perm_erase {α : Type} : ∀ (l : List α) (k : Nat) (h : k < l.length), (l[k] :: l.eraseIdx k).Perm l
  | [], k, h => by simp at h
  | x :: l, 0, h => .refl _
  | x :: l, k + 1, h => by
    have h : k < l.length := by simpa using h
    show (l[k] :: x :: l.eraseIdx k).Perm (x :: l)
    exact (List.Perm.swap _ _ _).trans ((perm_erase l k h).cons x)
theorem shuffled_then {α : Type} {m : Mem} {i : Nat} {P : D → Mem → Prop} (emb : α → D) (d : D) (xs : List α) (hf : FlowAt m i) (hd : seqOf m d = some (xs.map emb)) (hlen : bLen [d] m = .ok (.int (xs.length : Nat)) m) (hdm : ∀ m', Flo m m' i → bLen [d] m' = .ok (.int (xs.length : Nat)) m') (hx : xs.length ≤ 1000)
    (h : ∀ (ys : List α) m', ys.Perm xs → Flo m m' i → P (.lst (ys.map emb)) m') : Tri (m__law_shuffled [.ref i, d] m) P := by
  refine tri_fn rfl ?_
  have hsz : xs.length ≤ sizeLine := size_le (by omega)
  have e1 : bList true [d] m = .ok (.ref m.length) (m ++ [.lst (xs.map emb)]) := by
    unfold bList
    simp only [hd]
    rfl
  have h0 : Flo m (m ++ [.lst (xs.map emb)]) i := (Flo.refl hf).push _
  have hi : m.length ≠ i := by have := hf.lt; omega
  simp [b__law_shuffled, e1, b__law_shuffled_s1, hdm _ h0, -rng1R_int, rng_nat (n := xs.length) (by omega)]
  refine (comp_inv (fun j m' acc => ∃ ys zs : List α, acc = ys.map emb ∧ ys.length = j ∧ (ys ++ zs).Perm xs ∧ m'[m.length]? = some (.lst (zs.map emb)) ∧ Flo m m' i) _ ⟨[], xs, rfl, rfl, .refl _, by simp, h0⟩ ?_).mono ?_
  · rintro j d' m' acc hd' hj ⟨ys, zs, rfl, hys, hp, hc, hfl⟩
    have hzl : ys.length + zs.length = xs.length := by rw [← List.length_append, hp.length_eq]
    simp at hj
    have hz0 : 0 < zs.length := by omega
    simp [wipeE, isTy_ref hc, len_ref hc]
    refine pick_then (n := (zs.length : Int)) hfl.at (by omega) (by omega) fun k m2 hk hfl2 => ?_
    have hc2 : m2[m.length]? = some (.lst (zs.map emb)) := hfl2.get hi hc
    have hk' : k < zs.length := by omega
    have e2 : gPopAt (.ref m.length) [.int (k : Nat)] m2 = .ok (emb zs[k]) (m2.set m.length (.lst ((zs.eraseIdx k).map emb))) := by
      have e3 : ixN (zs.map emb).length ((k : Nat) : Int) = some k := by
        unfold ixN
        rw [if_pos (by omega), if_pos (by rw [List.length_map]; omega)]
        rfl
      have e4 : (zs.map emb)[k]? = some (emb zs[k]) := by rw [List.getElem?_map, List.getElem?_eq_getElem hk']; rfl
      unfold gPopAt
      simp only [hc2, lstC, e3, e4]
      rw [map_erase]
    rw [e2]
    have hys2 : ys.length < sizeLine := size_lt (by omega)
    simp [hys2]
    refine ⟨ys ++ [zs[k]], by simp, by simp [hys], zs.eraseIdx k, ?_, ?_, (hfl.trans hfl2).put (Nat.le_refl _) hi _⟩
    · refine List.Perm.trans ?_ hp
      rw [List.append_assoc]
      exact List.Perm.append_left _ (perm_erase zs k hk')
    · rw [List.getElem?_set_self (List.getElem?_eq_some_iff.mp hc2).1]
  · rintro acc m' ⟨ys, zs, rfl, hys, hp, hc, hfl⟩
    simp at hys
    have hz : zs = [] := by
      have := hp.length_eq
      rw [List.length_append] at this
      exact List.eq_nil_of_length_eq_zero (by omega)
    subst hz
    rw [List.append_nil] at hp
    exact h ys m' hp hfl
theorem counts_draw {m : Mem} {i n : Nat} {b : Int} {η : Env'} {j : Nat} (hf : FlowAt m i) (hn : n ≤ 1000) (hb0 : 0 ≤ b) (hb : b ≤ 1000) (h0 : ∀ d, (η.set j (some d))[0]? = some (some (.ref i))) (h2 : ∀ d, (η.set j (some d))[2]? = some (some (.int b))) :
    Tri (compD (gNm j) mYes (mCB bMax (mCons (mC (.int 0)) (mCons (mOp gSub (mCall m__law_pick (mCons (mVar 0) (mCons (mOp (gAdd false) (mVar 2) (mC (.int 2))) mNil))) (mC (.int 2))) mNil))) η (rngD 0 n) m []) (fun acc m' => ∃ cs : List Int, acc = cs.map .int ∧ cs.length = n ∧ (∀ c ∈ cs, 0 ≤ c ∧ c ≤ b) ∧ Flo m m' i) := by
  refine (comp_draw D.int (fun c => 0 ≤ c ∧ c ≤ b) hf (by simp; omega) ?_).mono ?_
  · intro d m' hd hfl
    simp [h0, h2]
    refine pick_then (n := b + 2) hfl.at (by omega) (by omega) fun k m2 hk hfl2 => ?_
    simp
    refine ⟨⟨?_, ?_⟩, hfl.trans hfl2⟩ <;> split <;> omega
  · rintro acc m' ⟨cs, e, hl, hP, hfl⟩
    exact ⟨cs, e, by simpa using hl, hP, hfl⟩
theorem heap_then {m : Mem} {i n : Nat} {b : Int} {P : D → Mem → Prop} (hf : FlowAt m i) (hn : n ≤ 1000) (hb0 : 0 ≤ b) (hb : b ≤ 1000) (h : ∀ (x : Hea) m', OkHea n b x → Flo m m' i → P (heaD x) m') : Tri (m__law_heap [.ref i, .int (n : Nat), .int b] m) P := by
  refine tri_fn rfl ?_
  simp [b__law_heap, -rng1R_int, rng_nat (n := n) (by omega)]
  refine (counts_draw (n := n) hf hn hb0 hb (fun d => rfl) (fun d => rfl)).mono ?_
  rintro _ m1 ⟨ts, rfl, htl, ht, hfl⟩
  simp [b__law_heap_s1, -rng1R_int, rng_nat (n := n) (by omega)]
  refine (counts_draw (n := n) hfl.at hn hb0 hb (fun d => rfl) (fun d => rfl)).mono ?_
  rintro _ m2 ⟨ls, rfl, hll, hl, hfl2⟩
  simp [b__law_heap_s2]
  refine pick_then (n := b + 1) hfl2.at (by omega) (by omega) fun k m3 hk hfl3 => ?_
  exact h ⟨(k : Int), ts, ls⟩ m3 ⟨by show 0 ≤ (k : Int); omega, by show (k : Int) ≤ b; omega, htl, hll, ht, hl⟩ ((hfl.trans hfl2).trans hfl3)
def marks (c : Int) (ws : List Nat) : List Int := ws.map fun w => if ((w : Nat) : Int) = c then (1 : Int) else 0
theorem marks_len (c : Int) (ws : List Nat) : (marks c ws).length = ws.length := by unfold marks; simp
theorem marks_map {m : Mem} {η : Env'} {j : Nat} (c : Int) (ws : List Nat) (hw : ws.length ≤ 1000) (hj : j < η.length) : compD (gNm j) mYes (mCB bInt (mCons (mOp (gEq false) (mVar j) (mC (.int c))) mNil)) η (ws.map fun w => D.int (w : Nat)) m [] = .ok ((marks c ws).map .int) m := by
  rw [comp_mapT (fun w : Nat => D.int (w : Nat)) (fun w => D.int (if ((w : Nat) : Int) = c then 1 else 0)) ws [] (fun w hw => by
    refine ⟨_, rfl, rfl, ?_⟩
    simp [hj]) (by simp; omega)]
  simp [marks]
theorem marks_ok (c : Int) (ws : List Nat) : ∀ x ∈ marks c ws, 0 ≤ x ∧ x ≤ 5 := by
  intro x hx
  obtain ⟨w, _, rfl⟩ := List.mem_map.mp hx
  split <;> omega
theorem pick_draw {m : Mem} {i n : Nat} {c : Int} {η : Env'} {j q : Nat} (hf : FlowAt m i) (hn : n ≤ 1000) (hc0 : 0 < c) (hc : c ≤ 1000) (h0 : ∀ d, (η.set j (some d))[q]? = some (some (.ref i))) :
    Tri (compD (gNm j) mYes (mCall m__law_pick (mCons (mVar q) (mCons (mC (.int c)) mNil))) η (rngD 0 n) m []) (fun acc m' => ∃ ws : List Nat, acc = ws.map (fun w => D.int (w : Nat)) ∧ ws.length = n ∧ (∀ w ∈ ws, (w : Int) < c) ∧ Flo m m' i) := by
  refine (comp_draw (fun w : Nat => D.int (w : Nat)) (fun w => (w : Int) < c) hf (by simp; omega) ?_).mono ?_
  · intro d m' hd hfl
    simp [h0]
    exact pick_then (n := c) hfl.at (by omega) (by omega) fun k m2 hk hfl2 => ⟨k, rfl, hk, hfl.trans hfl2⟩
  · rintro acc m' ⟨cs, e, hl, hP, hfl⟩
    exact ⟨cs, e, by simpa using hl, hP, hfl⟩
theorem rep_flat {α : Type} (x : α) : ∀ n : Nat, (List.replicate n [x]).flatten = List.replicate n x
  | 0 => rfl
  | n + 1 => by rw [List.replicate_succ, List.flatten_cons, rep_flat x n, List.replicate_succ]; rfl
theorem rep_ones {n : Nat} {m : Mem} (hn : n ≤ 1000) : gRepT (.tup [.int 1]) (.int (n : Nat)) m = .ok (iT (List.replicate n 1)) m := by
  show (if repB ((n : Nat) : Int) = true ∧ [D.int 1].length ≤ 1000 then R.ok (D.tup (List.replicate ((n : Nat) : Int).toNat [D.int 1]).flatten) m else R.stk) = _
  rw [if_pos ⟨(repB_iff _).mpr (by omega), by decide⟩, Int.toNat_natCast, rep_flat]
  unfold iT
  rw [List.map_replicate]
theorem more_heaps_then {m : Mem} {i n : Nat} {P : D → Mem → Prop} (hf : FlowAt m i) (hn : n ≤ 1000) (h : ∀ (xs : List Hea) m', xs.length ≤ 2 → (∀ x ∈ xs, OkHea n 5 x) → Flo m m' i → P (.lst (xs.map heaD)) m') : Tri (m__law_more_heaps [.ref i, .int (n : Nat)] m) P := by
  refine tri_fn rfl ?_
  simp [b__law_more_heaps, mPar]
  refine pick_then hf (by decide) (by decide) fun f m1 hf3 hfl => ?_
  simp [-rng1R_int, rng_nat (n := n) (by omega)]
  refine (pick_draw (n := n) hfl.at hn (by decide) (by decide) (fun d => rfl)).mono ?_
  rintro _ m2 ⟨ws, rfl, hw, hw4, hfl2⟩
  have hfl := hfl.trans hfl2
  simp [b__law_more_heaps_s1]
  by_cases hf0 : f = 0
  · simp [hf0]
    refine pick_then hfl.at (by decide) (by decide) fun k m3 hk hfl3 => ?_
    simp [rep_ones hn, wipeE]
    rw [marks_map 0 ws (by omega) (by simp)]
    simp only [tri_ok]
    refine h [⟨1 + (k : Int), List.replicate n 1, marks 0 ws⟩] m3 (by simp) (fun x hx => ?_) (hfl.trans hfl3)
    simp at hx
    subst hx
    exact ⟨by show 0 ≤ 1 + (k : Int); omega, by show 1 + (k : Int) ≤ 5; omega, by simp, by show (marks 0 ws).length = n; rw [marks_len]; exact hw, fun x hx => by
      simp at hx
      omega, marks_ok 0 ws⟩
  · simp [hf0, b__law_more_heaps_s2]
    refine pick_then hfl.at (by decide) (by decide) fun k m3 hk hfl3 => ?_
    simp [wipeE]
    rw [marks_map 0 ws (by omega) (by simp)]
    simp
    rw [marks_map 1 ws (by omega) (by simp)]
    simp [b__law_more_heaps_s3]
    refine pick_then hfl3.at (by decide) (by decide) fun k2 m4 hk2 hfl4 => ?_
    have hfl := hfl.trans (hfl3.trans hfl4)
    by_cases hf1 : (f : Int) = 1
    · rw [if_pos hf1, repL_lst (by decide) (by decide) (by simp)]
      refine h [⟨1 + (k : Int), marks 0 ws, marks 1 ws⟩, ⟨(k2 : Int), marks 1 ws, marks 0 ws⟩] m4 (by simp) (fun x hx => ?_) hfl
      simp at hx
      rcases hx with rfl | rfl
      · exact ⟨by show 0 ≤ 1 + (k : Int); omega, by show 1 + (k : Int) ≤ 5; omega, by show (marks 0 ws).length = n; rw [marks_len]; exact hw, by show (marks 1 ws).length = n; rw [marks_len]; exact hw, marks_ok 0 ws, marks_ok 1 ws⟩
      · exact ⟨by show 0 ≤ (k2 : Int); omega, by show (k2 : Int) ≤ 5; omega, by show (marks 1 ws).length = n; rw [marks_len]; exact hw, by show (marks 0 ws).length = n; rw [marks_len]; exact hw, marks_ok 1 ws, marks_ok 0 ws⟩
    · rw [if_neg hf1, repL_lst (by decide) (by decide) (by simp)]
      exact h [] m4 (by simp) (by simp) hfl
theorem sorts_ix {k : Nat} {m : Mem} (h : k < 3) : ∃ b : Int, 0 ≤ b ∧ b ≤ 5 ∧ gIx (.lst [.int 2, .int 3, .int 5]) (.int (k : Nat)) m = .ok (.int b) m := by
  have : k = 0 ∨ k = 1 ∨ k = 2 := by omega
  rcases this with rfl | rfl | rfl
  · exact ⟨2, by decide, by decide, rfl⟩
  · exact ⟨3, by decide, by decide, rfl⟩
  · exact ⟨5, by decide, by decide, rfl⟩
theorem any_yard_then {m : Mem} {i : Nat} {c : Int} {P : D → Mem → Prop} (hf : FlowAt m i) (hc0 : 0 < c) (hc : c ≤ 5) (h : ∀ (y : Yar) m', OkYar y → 1 ≤ y.d.length → (y.d.length : Int) ≤ c → y.h.length ≤ 5 → (∀ x ∈ y.h, OkHea y.d.length 5 x) → Flo m m' i → P (yarD y) m') : Tri (m__law_any_yard [.ref i, .int c] m) P := by
  refine tri_fn rfl ?_
  simp [b__law_any_yard]
  refine pick_then hf hc0 (by omega) fun k m1 hk hfl => ?_
  simp [b__law_any_yard_s1]
  have hn : 1 + (k : Int) = ((1 + k : Nat) : Int) := by simp
  rw [hn]
  generalize hN : 1 + k = n
  have hi : m1.length ≠ i := by have := hfl.at.lt; omega
  have h1 : m.length ≤ m1.length := hfl.2.1
  have hfl := hfl.push (.lst [])
  have hc1 : (m1 ++ [Cell.lst []])[m1.length]? = some (.lst []) := by simp
  generalize m1 ++ [Cell.lst []] = m2 at hfl hc1
  simp [b__law_any_yard_s2]
  refine pick_then hfl.at (by decide) (by decide) fun t m3 ht hfl3 => ?_
  have hc3 := hfl3.get hi hc1
  have hfl := hfl.trans hfl3
  simp [-rng1R_int, rng_nat (n := t) (by omega)]
  refine for_draw (m0 := m) (i := i) (j := m1.length) heaD (OkHea n 5) (fun η => ∃ e4, η = [some (.ref i), some (.int c), some (.int (n : Nat)), some (.ref m1.length), e4]) hfl hc3 ⟨_, rfl⟩ ?_ ?_
  · rintro d η m' as hd ⟨e4, rfl⟩ hfl' hc' hP hlt
    simp at hlt
    simp [isTy_ref hc']
    refine pick_then hfl'.at (by decide) (by decide) fun s m4 hs hfl4 => ?_
    obtain ⟨b, hb0, hb5, hix⟩ := sorts_ix (k := s) (m := m4) (by omega)
    simp [hix]
    refine heap_then hfl4.at (by omega) hb0 (by omega) fun x m5 hx hfl5 => ?_
    have hfl5' := hfl4.trans hfl5
    have hc5 := hfl5'.get hi hc'
    simp [append_ref hc5 (by simp; omega)]
    exact ⟨x, hx.mono hb5, (hfl'.trans hfl5').put h1 hi _, by rw [List.getElem?_set_self (List.getElem?_eq_some_iff.mp hc5).1]⟩
  · rintro η m' as ⟨e4, rfl⟩ hfl' hc' hP hlen
    simp at hlen
    simp [b__law_any_yard_s3]
    refine names_then hfl'.at (by omega) fun ns m4 hnl hns hfl4 => ?_
    refine more_heaps_then hfl4.at (by omega) fun xs m5 hxl hxs hfl5 => ?_
    have hc5 := (hfl4.trans hfl5).get hi hc'
    rw [cat_own (own_ref hc5) (own_lst _ _) (by simp; omega)]
    simp only [tri_ok, bind_ok]
    rw [← List.map_append]
    refine shuffled_then heaD _ (as ++ xs) hfl5.at rfl (by simp) (fun m' _ => by simp) (by simp; omega) fun ys m6 hp hfl6 => ?_
    have hmem : ∀ x ∈ ys, OkHea ns.length 5 x := by
      intro x hx
      rw [hnl]
      rcases List.mem_append.mp (hp.mem_iff.mp hx) with hx | hx
      · exact hP x hx
      · exact hxs x hx
    have hyl : ys.length ≤ 5 := by rw [hp.length_eq, List.length_append]; omega
    simp
    exact h ⟨ns, ys⟩ m6 ⟨hns, by show ns.length ≤ 5; omega, fun x hx => (hmem x hx).mono (by decide), by show ys.length ≤ 12; omega⟩ (by show 1 ≤ ns.length; omega) (by show (ns.length : Int) ≤ c; omega) hyl hmem (hfl'.trans (hfl4.trans (hfl5.trans hfl6)))
theorem nrm_seq {α : Type} {m : Mem} {n : Nat} {f : α → D} : ∀ {xs : List α}, (∀ x ∈ xs, nrm m n (f x) = some (f x)) → mapO (nrm m n) (xs.map f) = some (xs.map f)
  | [], _ => rfl
  | x :: xs, h => by
    rw [List.map_cons]
    unfold mapO
    rw [h x List.mem_cons_self, nrm_seq fun y hy => h y (List.mem_cons_of_mem _ hy)]
theorem nrm_tup {α : Type} {m : Mem} {n : Nat} {f : α → D} {xs : List α} (h : ∀ x ∈ xs, nrm m n (f x) = some (f x)) (hl : xs.length ≤ 100000) : nrm m (n + 1) (.tup (xs.map f)) = some (.tup (xs.map f)) := by
  simp only [nrm]
  rw [if_pos (by rw [List.length_map]; exact hl), nrm_seq h]
  rfl
theorem nrm_iT {m : Mem} {n : Nat} {xs : List Int} (hl : xs.length ≤ 100000) : nrm m (n + 2) (iT xs) = some (iT xs) := nrm_tup (fun x _ => by simp [nrm]) hl
theorem alike_self {m : Mem} {n : Nat} {d : D} (h : nrm m n d = some d) : m__law_alike n [d, d] m = .ok (.bl true) m := alike_of n d d d h h
theorem word_then {m : Mem} {i : Nat} {P : D → Mem → Prop} (hf : FlowAt m i) (h : ∀ (x : Str) m', Nm x → Flo m m' i → P (.str x) m') : Tri (m__law_word [.ref i] m) P := by
  refine tri_fn rfl ?_
  simp [b__law_word, let_S, b__law_word_s1]
  refine pick_then hf (by decide) (by decide) fun k m1 hk hfl => ?_
  have hn : 1 + (k : Int) = ((1 + k : Nat) : Int) := by simp
  simp [-rng1R_int]
  rw [hn, rng_nat (n := 1 + k) (by omega)]
  simp
  refine (letters_draw (n := 1 + k) hfl.at (by omega) (fun d => rfl) (fun d => rfl)).mono ?_
  rintro _ m2 ⟨cs, rfl, hcs, hlet, hfl2⟩
  have hfl := hfl.trans hfl2
  simp [join_letters (m := m2) (cs := cs) (by omega), b__law_word_s2, gIn_kept]
  by_cases hk : SX.S cs ∈ keptW
  · have hkl := kept_len hk
    rw [SX.S_len] at hkl
    have e1 : cutS (SX.S cs) none (some (-1)) = SX.S cs.dropLast := by
      unfold cutS
      rw [SX.S_len]
      have h1 : HT.sIx cs.length 0 none = 0 := rfl
      have h2 : HT.sIx cs.length cs.length (some (-1)) = cs.length - 1 := by
        unfold HT.sIx
        simp
        omega
      rw [h1, h2]
      show SX.S _ = _
      congr 1
      simp [List.dropLast_eq_take]
    have a1 := fun m => gAdd_str (al := false) (m := m) (x := SX.S cs.dropLast) (y := SX.S [113]) (by rw [SX.S_len, SX.S_len, List.length_dropLast, List.length_singleton]; omega)
    simp [hk, gSl_str (x := SX.S cs) (m := m2) (by rw [SX.S_len]; omega), e1, q_S, a1, b__law_word_s3]
    rw [S_append]
    refine h _ m2 ?_ hfl
    simp only [keptW, List.mem_cons, List.not_mem_nil, or_false] at hk
    have go : ∀ (w : String) (l : List Nat), Str.ofString w = SX.S l → Nm (SX.S (l.dropLast ++ [113])) → SX.S cs = Str.ofString w → Nm (SX.S (cs.dropLast ++ [113])) := fun w l e n q => by
      rw [e] at q
      rw [SX.S_inj q]
      exact n
    rcases hk with q | q | q | q | q
    · exact go "deeds" [100, 101, 101, 100, 115] (by decide +kernel) ⟨by decide, by decide, by decide, by decide +kernel⟩ q
    · exact go "room" [114, 111, 111, 109] (by decide +kernel) ⟨by decide, by decide, by decide, by decide +kernel⟩ q
    · exact go "heap" [104, 101, 97, 112] (by decide +kernel) ⟨by decide, by decide, by decide, by decide +kernel⟩ q
    · exact go "map" [109, 97, 112] (by decide +kernel) ⟨by decide, by decide, by decide, by decide +kernel⟩ q
    · exact go "yard" [121, 97, 114, 100] (by decide +kernel) ⟨by decide, by decide, by decide, by decide +kernel⟩ q
  · simp [hk, b__law_word_s3]
    exact h _ m2 ⟨by rw [SX.S_len]; omega, by rw [SX.S_len]; omega, hlet, hk⟩ hfl
theorem cutD_take (xs : List D) (n : Nat) : cutD xs none (some (n : Nat)) = xs.take n := by
  unfold cutD
  rw [HT.sIx_nat]
  show (xs.drop 0).take (min n xs.length - 0) = _
  rw [List.drop_zero, Nat.sub_zero]
  by_cases h : n ≤ xs.length
  · rw [Nat.min_eq_left h]
  · rw [Nat.min_eq_right (by omega), List.take_of_length_le (Nat.le_refl _), List.take_of_length_le (by omega)]
theorem cutD_drop (xs : List D) (n : Nat) : cutD xs (some (n : Nat)) none = xs.drop n := by
  unfold cutD
  rw [HT.sIx_nat]
  show (xs.drop (min n xs.length)).take (xs.length - min n xs.length) = _
  by_cases h : n ≤ xs.length
  · rw [Nat.min_eq_left h, List.take_of_length_le (by simp)]
  · rw [Nat.min_eq_right (by omega), List.drop_of_length_le (Nat.le_refl _), List.drop_of_length_le (by omega)]
    simp
end Y
end Mir

/-! Mir: yards: what can be done at a stand, where it leads. -/
namespace Mir
open PySem PySem.Spec PyProof.Rows L2
theorem firstAt_mem {z : Str} : ∀ {ys : List Str}, z ∈ ys → ∃ j, firstAt z ys = some j ∧ j < ys.length ∧ ys[j]? = some z
  | [], h => by simp at h
  | y :: ys, h => by
    unfold firstAt
    by_cases e : y = z
    · exact ⟨0, by rw [if_pos e], by simp, by simp [e]⟩
    · have h : z ∈ ys := by
        rcases List.mem_cons.mp h with h | h
        · exact absurd h.symm e
        · exact h
      obtain ⟨j, h1, h2, h3⟩ := firstAt_mem h
      exact ⟨j + 1, by rw [if_neg e, h1]; rfl, by simp; omega, by simpa using h3⟩
def ixS (ys : List Str) (z : Str) : Nat := (firstAt z ys).getD 0
theorem ixS_ok {z : Str} {ys : List Str} (h : z ∈ ys) : firstAt z ys = some (ixS ys z) ∧ ixS ys z < ys.length ∧ ys[ixS ys z]? = some z := by
  obtain ⟨j, h1, h2, h3⟩ := firstAt_mem h
  unfold ixS
  rw [h1]
  exact ⟨rfl, h2, h3⟩
theorem mapO_strO (ys : List Str) : mapO strOf (ys.map .str) = some ys := by
  have := mapO_map (f := strOf) (g := D.str) (h := id) (fun _ => rfl) ys
  rw [List.map_id] at this
  exact this
theorem index_tup {z : Str} {ys : List Str} {m : Mem} (h : z ∈ ys) : gIndexT (.tup (ys.map .str)) [.str z] m = .ok (.int ((ixS ys z : Nat) : Int)) m := by
  unfold gIndexT
  simp only [mapO_strO, Option.bind_some, (ixS_ok h).1]
theorem zip_sw {α β : Type} : ∀ (l : List α) (r : List β), (l.zip r).map Prod.swap = r.zip l
  | [], r => by simp
  | a :: l, [] => by simp
  | a :: l, b :: r => by simp [zip_sw l r]
def tk (h : Hea) (k : Nat) : Int := h.t.getD k 0
def lk (h : Hea) (k : Nat) : Int := h.l.getD k 0
theorem gIx_iT {xs : List Int} {k : Nat} (h : k < xs.length) (m : Mem) : gIx (iT xs) (.int (k : Nat)) m = .ok (.int (xs.getD k 0)) m := by
  refine gIx_tup (Y.atI_nat ?_)
  rw [List.getElem?_map, List.getElem?_eq_getElem h, List.getD_eq_getElem?_getD, List.getElem?_eq_getElem h]
  rfl
theorem gIx_sT {xs : List Str} {k : Nat} {x : Str} (h : xs[k]? = some x) (m : Mem) : gIx (sT xs) (.int (k : Nat)) m = .ok (.str x) m := by
  refine gIx_tup (Y.atI_nat ?_)
  rw [List.getElem?_map, h]
  rfl
/-- all heaps' numbers are as many as deeds -/
def Fit (n : Nat) (hs : List Hea) : Prop := ∀ h ∈ hs, h.t.length = n ∧ h.l.length = n
theorem OkYar.fit {y : Yar} (h : OkYar y) : Fit y.d.length y.h := fun x hx => ⟨(h.hp x hx).tl, (h.hp x hx).ll⟩
def thereB (hs : List Hea) (st : List Int) (k : Nat) : Bool := (st.zip hs).all fun p => decide (tk p.2 k ≤ p.1)
def ledL (hs : List Hea) (st : List Int) (k : Nat) : List Int := (st.zip hs).map fun p => p.1 - tk p.2 k + lk p.2 k
theorem there_swap (hs : List Hea) (st : List Int) (k : Nat) : (hs.zip st).all (fun p => decide (tk p.1 k ≤ p.2)) = thereB hs st k := by
  unfold thereB
  rw [← zip_sw, List.all_map]
  rfl
theorem led_swap (hs : List Hea) (st : List Int) (k : Nat) : (hs.zip st).map (fun p => p.2 - tk p.1 k + lk p.1 k) = ledL hs st k := by
  unfold ledL
  rw [← zip_sw, List.map_map]
  rfl
namespace Y
theorem is_there_eq {hs : List Hea} {st : List Int} {k n : Nat} {m : Mem} (hf : Fit n hs) (hk : k < n) (hl : hs.length ≤ 1000) : m__law_is_there [.tup (hs.map heaD), iT st, .int (k : Nat)] m = .ok (.bl (thereB hs st k)) m := by
  have key : Tri (m__law_is_there [.tup (hs.map heaD), iT st, .int (k : Nat)] m) (fun d m' => d = .bl (thereB hs st k) ∧ m' = m) := by
    refine tri_fn rfl ?_
    simp [b__law_is_there, iT, -List.length_map]
    rw [zipD_map, comp_mapT (fun p : Hea × Int => D.tup [heaD p.1, .int p.2]) (fun p => D.bl (decide (tk p.1 k ≤ p.2))) (hs.zip st) [] (fun p hp => by
      have hh := hf p.1 (List.of_mem_zip hp).1
      have e1 := fun m => gIx_iT (xs := p.1.t) (k := k) (by omega) m
      refine ⟨_, rfl, rfl, ?_⟩
      simp [wipeE, heaD, e1, tk]) (by simp; omega)]
    have e2 : (hs.zip st).map (fun p => D.bl (decide (tk p.1 k ≤ p.2))) = ((hs.zip st).map fun p => decide (tk p.1 k ≤ p.2)).map .bl := by rw [List.map_map]; rfl
    simp only [List.nil_append, tri_ok, mkL_f, bind_ok, e2, bAll_bls]
    rw [List.all_map]
    refine ⟨?_, trivial⟩
    rw [← there_swap]
    rfl
  obtain ⟨d, m', e, rfl, rfl⟩ := key.ex
  exact e
theorem law_led_eq {hs : List Hea} {st : List Int} {k n : Nat} {m : Mem} (hf : Fit n hs) (hk : k < n) (hl : hs.length ≤ 1000) : m__law_led [.tup (hs.map heaD), iT st, .int (k : Nat)] m = .ok (iT (ledL hs st k)) m := by
  have key : Tri (m__law_led [.tup (hs.map heaD), iT st, .int (k : Nat)] m) (fun d m' => d = iT (ledL hs st k) ∧ m' = m) := by
    refine tri_fn rfl ?_
    simp [b__law_led, iT, -List.length_map]
    rw [zipD_map, comp_mapT (fun p : Hea × Int => D.tup [heaD p.1, .int p.2]) (fun p => D.int (p.2 - tk p.1 k + lk p.1 k)) (hs.zip st) [] (fun p hp => by
      have hh := hf p.1 (List.of_mem_zip hp).1
      have e1 := fun m => gIx_iT (xs := p.1.t) (k := k) (by omega) m
      have e2 := fun m => gIx_iT (xs := p.1.l) (k := k) (by omega) m
      refine ⟨_, rfl, rfl, ?_⟩
      simp [wipeE, heaD, e1, e2, tk, lk]) (by simp; omega)]
    simp only [List.nil_append, tri_ok, mkL_f, bind_ok, bTuple_lst]
    refine ⟨?_, trivial⟩
    rw [← led_swap, List.map_map]
    rfl
  obtain ⟨d, m', e, rfl, rfl⟩ := key.ex
  exact e
end Y
end Mir

/-! Mir: maps as the laws draw them. -/
namespace Mir
open PySem PySem.Spec PyProof.Rows L2
abbrev Rows' := List (List (Option Nat))
structure Cha where
  n : List Str
  r : Rows'
def oD : Option Nat → D
  | none => .non
  | some k => .int (k : Nat)
def rowD (r : List (Option Nat)) : D := .tup (r.map oD)
def chaD (c : Cha) : D := .tup [sT c.n, .tup (c.r.map rowD)]
def way (r : Rows') (a k b : Nat) : Prop := ∃ x, r[a]? = some x ∧ x[k]? = some (some b)
inductive Com (r : Rows') : Nat → Prop
  | zero : Com r 0
  | step {a k b : Nat} : Com r a → way r a k b → Com r b
structure OkRows (w : Nat) (r : Rows') : Prop where
  pos : 0 < r.length
  wid : ∀ x ∈ r, x.length = w
  rng : ∀ a k b, way r a k b → b < r.length
  com : ∀ b, b < r.length → Com r b
  deed : ∀ k, k < w → ∃ a b, way r a k b
structure OkCha (c : Cha) : Prop where
  nms : Nms c.n
  rows : OkRows c.n.length c.r
/-! ### the rooms in another order -/
theorem findN (k : Nat) : ∀ {xs : List Nat}, k ∈ xs → (xs.map fun i => V.int (i : Nat)).findIdx? (fun w => eqV w (.int (k : Nat))) = some (xs.idxOf k)
  | [], h => by simp at h
  | x :: xs, h => by
    rw [List.map_cons, List.findIdx?_cons, List.idxOf_cons]
    have e : eqV (.int (x : Nat)) (.int (k : Nat)) = decide (x = k) := by
      show ((x : Int) == (k : Int)) = _
      by_cases q : x = k
      · simp [q]
      · have : ¬ ((x : Int) = (k : Int)) := by omega
        simp [q, this]
    rw [e]
    by_cases q : x = k
    · simp [q]
    · have h : k ∈ xs := by
        rcases List.mem_cons.mp h with h | h
        · exact absurd h.symm q
        · exact h
      rw [findN k h]
      have e2 : (x == k) = false := by simp [q]
      simp [q, e2]
theorem mapO_ints (xs : List Nat) : mapO flatD (xs.map fun i => D.int (i : Nat)) = some (xs.map fun i => V.int (i : Nat)) := mapO_map (f := flatD) (g := fun i : Nat => D.int (i : Nat)) (h := fun i : Nat => V.int (i : Nat)) (fun _ => rfl) xs
theorem index_ints {k : Nat} {xs : List Nat} {m : Mem} (h : k ∈ xs) : gIndexL (.lst (xs.map fun i => D.int (i : Nat))) [.int (k : Nat)] m = .ok (.int ((xs.idxOf k : Nat) : Int)) m := by
  have e : ixFlat (.int (k : Nat)) (xs.map fun i => D.int (i : Nat)) = some (xs.idxOf k) := by
    unfold ixFlat
    simp only [flatD, mapO_ints, findN k h]
  unfold gIndexL
  simp only [lstOf, e]
def rAt (r : Rows') (a : Nat) : List (Option Nat) := r.getD a []
theorem rAt_eq {r : Rows'} {a : Nat} {x : List (Option Nat)} (h : r[a]? = some x) : rAt r a = x := by unfold rAt; rw [List.getD_eq_getElem?_getD, h]; rfl
theorem rAt_lt {r : Rows'} {a : Nat} (h : a < r.length) : rAt r a = r[a] := rAt_eq (List.getElem?_eq_getElem h)
theorem rAt_mem {r : Rows'} {a : Nat} (h : a < r.length) : rAt r a ∈ r := by rw [rAt_lt h]; exact List.getElem_mem h
def oAt (x : List (Option Nat)) (k : Nat) : Option Nat := x.getD k none
def reRow (ord : List Nat) (x : List (Option Nat)) : List (Option Nat) := x.map (Option.map fun b => ord.idxOf b)
def reR (ord : List Nat) (r : Rows') : Rows' := ord.map fun a => reRow ord (rAt r a)
/-- an order of the rooms: the first one stays -/
structure Ord (n : Nat) (ord : List Nat) : Prop where
  perm : ord.Perm (List.range n)
  head : ord[0]? = some 0
theorem Ord.len {n : Nat} {ord : List Nat} (h : Ord n ord) : ord.length = n := by rw [h.perm.length_eq, List.length_range]
theorem Ord.mem {n : Nat} {ord : List Nat} (h : Ord n ord) {a : Nat} : a ∈ ord ↔ a < n := by rw [h.perm.mem_iff, List.mem_range]
theorem Ord.nd {n : Nat} {ord : List Nat} (h : Ord n ord) : ord.Nodup := h.perm.symm.nodup List.nodup_range
theorem Ord.get {n : Nat} {ord : List Nat} (h : Ord n ord) {a : Nat} (ha : a < n) : ord[ord.idxOf a]? = some a := by
  have hl := List.idxOf_lt_length_iff.mpr (h.mem.mpr ha)
  rw [List.getElem?_eq_getElem hl, List.getElem_idxOf]
theorem Ord.idx {n : Nat} {ord : List Nat} (h : Ord n ord) {j a : Nat} (e : ord[j]? = some a) : ord.idxOf a = j := by
  obtain ⟨hj, rfl⟩ := List.getElem?_eq_some_iff.mp e
  exact h.nd.idxOf_getElem j hj
theorem way_re {ord : List Nat} {r : Rows'} (h : Ord r.length ord) {a k b : Nat} (hb : b < r.length) : way (reR ord r) (ord.idxOf a) k (ord.idxOf b) ↔ (a < r.length → way r a k b) ∧ a < r.length := by
  constructor
  · rintro ⟨x, e1, e2⟩
    have hl : ord.idxOf a < ord.length := by
      have := (List.getElem?_eq_some_iff.mp e1).1
      unfold reR at this
      simpa using this
    have ha : a < r.length := h.mem.mp (List.idxOf_lt_length_iff.mp hl)
    refine ⟨fun _ => ?_, ha⟩
    unfold reR at e1
    rw [List.getElem?_map, h.get ha] at e1
    cases e1
    unfold reRow at e2
    rw [List.getElem?_map] at e2
    have hg : rAt r a = r[a] := rAt_lt ha
    rw [hg] at e2
    refine ⟨r[a], List.getElem?_eq_getElem ha, ?_⟩
    cases hk : r[a][k]? with
    | none => rw [hk] at e2; cases e2
    | some o =>
      rw [hk] at e2
      cases o with
      | none => cases e2
      | some c =>
        have e3 : ord.idxOf c = ord.idxOf b := by simpa using e2
        have hb' := h.get hb
        by_cases hc : c ∈ ord
        · have hc' := h.get (h.mem.mp hc)
          rw [e3, hb'] at hc'
          cases hc'
          rfl
        · have q1 := List.idxOf_lt_length_iff.mpr (h.mem.mpr hb)
          have q2 : ¬ ord.idxOf c < ord.length := fun z => hc (List.idxOf_lt_length_iff.mp z)
          omega
  · rintro ⟨h1, ha⟩
    obtain ⟨x, e1, e2⟩ := h1 ha
    refine ⟨reRow ord x, ?_, ?_⟩
    · unfold reR
      rw [List.getElem?_map, h.get ha]
      show some (reRow ord (rAt r a)) = _
      rw [rAt_eq e1]
    · unfold reRow
      rw [List.getElem?_map, e2]
      rfl
theorem OkRows.re {w : Nat} {r : Rows'} (ok : OkRows w r) {ord : List Nat} (h : Ord r.length ord) : OkRows w (reR ord r) := by
  have len : (reR ord r).length = r.length := by unfold reR; rw [List.length_map, h.len]
  have back : ∀ a k b, way (reR ord r) a k b → ∃ a' b', a = ord.idxOf a' ∧ b = ord.idxOf b' ∧ way r a' k b' := by
    rintro a k b ⟨x, e1, e2⟩
    unfold reR at e1
    rw [List.getElem?_map] at e1
    cases hq : ord[a]? with
    | none => rw [hq] at e1; cases e1
    | some a' =>
      rw [hq] at e1
      cases e1
      have ha : a' < r.length := h.mem.mp (List.mem_of_getElem? hq)
      unfold reRow at e2
      rw [List.getElem?_map] at e2
      have hg : rAt r a' = r[a'] := rAt_lt ha
      rw [hg] at e2
      cases hk : r[a'][k]? with
      | none => rw [hk] at e2; cases e2
      | some o =>
        rw [hk] at e2
        cases o with
        | none => cases e2
        | some c =>
          refine ⟨a', c, (h.idx hq).symm, ?_, r[a'], List.getElem?_eq_getElem ha, hk⟩
          simpa using e2.symm
  have z : ord.idxOf 0 = 0 := h.idx h.head
  have com : ∀ b, Com r b → b < r.length → Com (reR ord r) (ord.idxOf b) := by
    intro b hb
    induction hb with
    | zero => intro _; rw [z]; exact .zero
    | @step a k b ha hw ih =>
      intro hb
      have hal : a < r.length := by obtain ⟨x, e, _⟩ := hw; exact (List.getElem?_eq_some_iff.mp e).1
      exact .step (ih hal) ((way_re h hb).mpr ⟨fun _ => hw, hal⟩)
  refine ⟨by rw [len]; exact ok.pos, fun x hx => ?_, fun a k b hw => ?_, fun b hb => ?_, fun k hk => ?_⟩
  · obtain ⟨a, ha, rfl⟩ := List.mem_map.mp hx
    have ha := h.mem.mp ha
    unfold reRow
    rw [List.length_map]
    exact ok.wid _ (rAt_mem ha)
  · obtain ⟨a', b', _, rfl, hw'⟩ := back a k b hw
    rw [len, ← h.len]
    exact List.idxOf_lt_length_iff.mpr (h.mem.mpr (ok.rng _ _ _ hw'))
  · rw [len] at hb
    have hl : b < ord.length := by rw [h.len]; exact hb
    have hm : ord[b] < r.length := h.mem.mp (List.getElem_mem hl)
    have := com ord[b] (ok.com _ hm) hm
    rw [h.idx (List.getElem?_eq_getElem hl)] at this
    exact this
  · obtain ⟨a, b, hw⟩ := ok.deed k hk
    have hal : a < r.length := by obtain ⟨x, e, _⟩ := hw; exact (List.getElem?_eq_some_iff.mp e).1
    exact ⟨_, _, (way_re h (ok.rng _ _ _ hw)).mpr ⟨fun _ => hw, hal⟩⟩

theorem lsRg_f {a b : Int} {m : Mem} (h0 : 0 ≤ a) (h1 : a ≤ 1000) (h2 : 0 ≤ b) (h3 : b ≤ 1000) : lsRg false a b m = .ok (.lst (rgD a b)) m := by
  unfold lsRg
  rw [if_pos (rgB_of (RgOk.of_le h0 (by omega) (by omega) h2))]
  rfl
@[simp] theorem ap_listRg2 (al : Bool) (a b : EM) (η : Env') (m : Mem) : mListRg2 al a b η m = (a η m).bind fun x m1 => (b η m1).bind fun y m2 => match x, y with
  | .int i, .int j => lsRg al i j m2
  | _, _ => .stk := nr rfl
theorem rgD_nat (a n : Nat) : rgD (a : Nat) (n : Nat) = (List.range' a (n - a)).map fun i => D.int ((i : Nat) : Int) := by
  unfold rgD
  rw [List.range'_eq_map_range, List.map_map]
  have : (((n : Nat) : Int) - ((a : Nat) : Int)).toNat = n - a := by omega
  rw [this]
  refine List.map_congr_left fun i _ => ?_
  show D.int _ = D.int _
  congr 1
theorem oD_non (o : Option Nat) : isNon (oD o) = o.isNone := by cases o <;> rfl
theorem gIx_rows {r : Rows'} {a : Nat} (h : a < r.length) (m : Mem) : gIx (.tup (r.map rowD)) (.int (a : Nat)) m = .ok (rowD (rAt r a)) m := by
  refine gIx_tup (Y.atI_nat ?_)
  rw [List.getElem?_map, rAt_lt h, List.getElem?_eq_getElem h]
  rfl
theorem gIx_row {x : List (Option Nat)} {k : Nat} (h : k < x.length) (m : Mem) : gIx (rowD x) (.int (k : Nat)) m = .ok (oD (oAt x k)) m := by
  refine gIx_tup (Y.atI_nat ?_)
  unfold oAt
  rw [List.getElem?_map, List.getD_eq_getElem?_getD, List.getElem?_eq_getElem h]
  rfl
namespace Y
theorem reordered_then {m : Mem} {i : Nat} {c : Cha} {P : D → Mem → Prop} (hf : FlowAt m i) (hr : 0 < c.r.length) (hl : c.r.length ≤ 900) (hw : ∀ x ∈ c.r, x.length ≤ 900) (hb : ∀ a k b, way c.r a k b → b < c.r.length)
    (h : ∀ ord m', Ord c.r.length ord → Flo m m' i → P (chaD ⟨c.n, reR ord c.r⟩) m') : Tri (m__law_reordered [.ref i, chaD c] m) P := by
  refine tri_fn rfl ?_
  simp [b__law_reordered, chaD, -List.length_map]
  rw [List.length_map, show (1 : Int) = ((1 : Nat) : Int) from rfl, lsRg_f (by omega) (by omega) (by omega) (by omega), rgD_nat]
  simp only [tri_ok]
  refine shuffled_then (fun k : Nat => D.int (k : Nat)) _ (List.range' 1 (c.r.length - 1)) hf rfl (by simp) (fun m' _ => by simp) (by simp; omega) fun ys m1 hp hfl => ?_
  have hyl : ys.length = c.r.length - 1 := by rw [hp.length_eq, List.length_range']
  have ho : Ord c.r.length (0 :: ys) := by
    refine ⟨?_, rfl⟩
    have e : List.range c.r.length = 0 :: List.range' 1 (c.r.length - 1) := by
      rw [List.range_eq_range']
      obtain ⟨n, hn⟩ : ∃ n, c.r.length = n + 1 := ⟨c.r.length - 1, by omega⟩
      rw [hn, List.range'_succ]
      rfl
    rw [e]
    exact hp.cons 0
  rw [cat_own (xs := [.int 0]) (own_lst _ _) (own_lst _ _) (by simp; omega)]
  have eo : [D.int 0] ++ ys.map (fun k : Nat => D.int (k : Nat)) = (0 :: ys).map fun k : Nat => D.int (k : Nat) := by simp
  rw [eo]
  generalize hord : (0 :: ys) = ord at ho
  simp [b__law_reordered_s1]
  have hi : m1.length ≠ i := by have := hfl.at.lt; omega
  have h1 : m.length ≤ m1.length := hfl.2.1
  have hfl := hfl.push (.lst [])
  have hc1 : (m1 ++ [Cell.lst []])[m1.length]? = some (.lst []) := by simp
  generalize m1 ++ [Cell.lst []] = m2 at hfl hc1
  simp [b__law_reordered_s2]
  refine for_inv (fun k η m' => (∃ e4, η = [some (.ref i), some (.tup [sT c.n, .tup (c.r.map rowD)]), some (.lst (ord.map fun k : Nat => D.int (k : Nat))), some (.ref m1.length), e4, none]) ∧ Flo m m' i ∧ m'[m1.length]? = some (.lst ((ord.take k).map fun a => rowD (reRow ord (rAt c.r a))))) _ ⟨⟨_, rfl⟩, hfl, by simpa using hc1⟩ ?_ ?_
  · rintro k d η m' hd ⟨⟨e4, rfl⟩, hfl', hc'⟩
    rw [List.getElem?_map] at hd
    cases ha : ord[k]? with
    | none => rw [ha] at hd; cases hd
    | some a =>
    rw [ha] at hd
    cases hd
    have hal : a < c.r.length := ho.mem.mp (List.mem_of_getElem? ha)
    have hkl := (List.getElem?_eq_some_iff.mp ha).1
    have hx : rAt c.r a ∈ c.r := rAt_mem hal
    have hxb : ∀ b, some b ∈ rAt c.r a → b ∈ ord := fun b hb' => by
      obtain ⟨k', e⟩ := List.mem_iff_getElem?.mp hb'
      exact ho.mem.mpr (hb a k' b ⟨_, by rw [rAt_lt hal]; exact List.getElem?_eq_getElem hal, e⟩)
    have e1 := fun m => gIx_rows (r := c.r) hal m
    simp [isTy_ref hc', e1]
    generalize hxe : rAt c.r a = x at hx hxb
    simp only [rowD]
    simp [-List.length_map]
    rw [comp_mapT oD (fun o => oD (o.map fun b => ord.idxOf b)) x [] (fun o ho' => by
      refine ⟨_, rfl, rfl, ?_⟩
      cases o with
      | none => simp [wipeE, oD, isNon]
      | some b =>
        have e2 := fun m => index_ints (m := m) (hxb b ho')
        simp [wipeE, oD, isNon, e2]) (by have := hw x hx; simp; omega)]
    simp only [tri_ok, List.nil_append]
    simp [append_ref hc' (by have := ho.len; simp; omega)]
    refine ⟨hfl'.put h1 hi _, ?_⟩
    rw [List.getElem?_set_self (List.getElem?_eq_some_iff.mp hc').1, List.take_add_one, List.getElem?_map, ha]
    simp [reRow, rowD, hxe]
  · rintro η m' ⟨⟨e4, rfl⟩, hfl', hc'⟩
    simp [b__law_reordered_s3, tuple_ref hc']
    have := h ord m' ho hfl'
    unfold chaD reR at this
    rw [List.map_map] at this
    exact this
end Y
/-! ### lists of unlike numbers -/
theorem nodup_len : ∀ (n : Nat) (l : List Nat), l.Nodup → (∀ a ∈ l, a < n) → l.length ≤ n
  | 0, l, _, h => by
    cases l with
    | nil => simp
    | cons a r => exact absurd (h a List.mem_cons_self) (by omega)
  | n + 1, l, nd, h => by
    have h1 := nodup_len n (l.erase n) (nd.erase n) (fun a ha => by
      have h2 := h a (List.mem_of_mem_erase ha)
      have h3 : a ≠ n := (List.Nodup.mem_erase_iff nd |>.mp ha).1
      omega)
    have h2 : l.length ≤ (l.erase n).length + 1 := by
      rw [List.length_erase]
      split <;> omega
    omega
theorem nodup_full {n : Nat} {l : List Nat} (nd : l.Nodup) (h : ∀ a ∈ l, a < n) (hl : l.length = n) {b : Nat} (hb : b < n) : b ∈ l := by
  refine Classical.byContradiction fun hn => ?_
  have := nodup_len n (b :: l) (List.nodup_cons.mpr ⟨hn, nd⟩) (fun a ha => by
    rcases List.mem_cons.mp ha with e | e
    · rw [e]; exact hb
    · exact h a e)
  simp at this
  omega
theorem fuel_small {n : Nat} (h : n ≤ 1000000) : n < FUEL := by
  unfold FUEL
  exact Nat.lt_of_lt_of_le (show n < 10 ^ 7 by omega) (Nat.pow_le_pow_right (by decide) (by decide))
/-- a while by an invariant: what is left falls -/
theorem while_inv {t : TM} {body : SM} {η : Env'} {m : Mem} {N : Env' → Mem → Prop} {Rt : D → Mem → Prop} (I : Nat → Env' → Mem → Prop) (n : Nat) (hn : n ≤ 1000000) (h0 : I n η m)
    (h : ∀ n η m, I n η m → Tri (t η m) (fun b m1 => if b = true then TriS (body η m1) (fun η2 m2 => ∃ k, k < n ∧ I k η2 m2) Rt else N η m1)) : TriS (mWhile t body η m) N Rt :=
  wh_inv I h FUEL n η m (fuel_small hn) h0
/-- what was is as it was -/
def Kp (m m' : Mem) : Prop := m.length ≤ m'.length ∧ ∀ j, j < m.length → m'[j]? = m[j]?
theorem Kp.refl (m : Mem) : Kp m m := ⟨Nat.le_refl _, fun _ _ => rfl⟩
theorem Kp.trans {m m1 m2 : Mem} (h : Kp m m1) (k : Kp m1 m2) : Kp m m2 := ⟨Nat.le_trans h.1 k.1, fun j hj => (k.2 j (Nat.lt_of_lt_of_le hj h.1)).trans (h.2 j hj)⟩
theorem Kp.push {m m' : Mem} (h : Kp m m') (c : Cell) : Kp m (m' ++ [c]) := ⟨by rw [List.length_append]; exact Nat.le_trans h.1 (Nat.le_add_right _ _), fun j hj => by rw [List.getElem?_append_left (Nat.lt_of_lt_of_le hj h.1)]; exact h.2 j hj⟩
theorem Kp.put {m m' : Mem} (h : Kp m m') {j : Nat} (hj : m.length ≤ j) (c : Cell) : Kp m (m'.set j c) := ⟨by rw [List.length_set]; exact h.1, fun k hk => by rw [List.getElem?_set_ne (by omega)]; exact h.2 k hk⟩
theorem Kp.get {m m' : Mem} (h : Kp m m') {j : Nat} {c : Cell} (e : m[j]? = some c) : m'[j]? = some c := (h.2 j (List.getElem?_eq_some_iff.mp e).1).trans e
theorem Kp.flo {m m' : Mem} {i : Nat} (h : Kp m m') (hf : FlowAt m i) : Flo m m' i := by
  refine ⟨?_, h.1, fun j _ hj => h.2 j hj⟩
  obtain ⟨l, e, q⟩ := hf
  exact ⟨l, h.get e, q⟩
theorem Flo.kp {m m1 m2 : Mem} {i : Nat} (h : Flo m m1 i) (k : Kp m1 m2) : Flo m m2 i := h.trans (k.flo h.at)
theorem inV_ints {x : Nat} : ∀ ys : List Nat, inV (.int (x : Nat)) (ys.map fun i => V.int (i : Nat)) = decide (x ∈ ys)
  | [] => rfl
  | y :: ys => by
    have e : eqV (.int (y : Nat)) (.int (x : Nat)) = decide (y = x) := by
      show ((y : Int) == (x : Int)) = _
      by_cases q : y = x
      · simp [q]
      · have : ¬ ((y : Int) = (x : Int)) := by omega
        simp [q, this]
    have ih := inV_ints (x := x) ys
    unfold inV at ih ⊢
    rw [List.map_cons, List.any_cons, ih, e]
    by_cases q : y = x
    · simp [q]
    · have : ¬ (x = y) := fun z => q z.symm
      simp [q, this]
theorem gIn_ints {x : Nat} {ys : List Nat} {neg : Bool} {m : Mem} {j : Nat} (h : m[j]? = some (.lst (ys.map fun i => D.int (i : Nat)))) : gIn neg (.int (x : Nat)) (.ref j) m = .ok (.bl (decide (x ∈ ys) ^^ neg)) m := by
  have e : lstOf m (.ref j) = some (ys.map fun i => D.int (i : Nat)) := by simp [lstOf, h, lstC]
  show bR neg m (inOf m (.int (x : Nat)) (.ref j)) = _
  unfold inOf
  simp only [e, flatIn, flatD, mapO_ints, inV_ints, bR]
/-- a map as it may be before it is looked at -/
structure PreRows (w : Nat) (r : Rows') : Prop where
  pos : 0 < r.length
  few : r.length ≤ 900
  wf : w ≤ 900
  wid : ∀ x ∈ r, x.length = w
  rng : ∀ a k b, way r a k b → b < r.length
theorem PreRows.row {w : Nat} {r : Rows'} (h : PreRows w r) {a : Nat} (ha : a < r.length) {b : Nat} (hb : some b ∈ rAt r a) : ∃ k, way r a k b := by
  obtain ⟨k, e⟩ := List.mem_iff_getElem?.mp hb
  exact ⟨k, _, by rw [rAt_lt ha]; exact List.getElem?_eq_getElem ha, e⟩
/-- rooms found by a search -/
structure Srch (r : Rows') (ord : List Nat) : Prop where
  nd : ord.Nodup
  pos : 0 < ord.length
  ok : ∀ a ∈ ord, a < r.length ∧ Com r a
theorem Srch.len {r : Rows'} {ord : List Nat} (g : Srch r ord) : ord.length ≤ r.length := nodup_len _ _ g.nd fun a ha => (g.ok a ha).1
theorem Srch.zero {r : Rows'} (h : 0 < r.length) : Srch r [0] := ⟨by simp, by simp, fun a ha => by
  have : a = 0 := by simpa using ha
  rw [this]
  exact ⟨h, .zero⟩⟩
theorem Srch.add {r : Rows'} {ord : List Nat} (g : Srch r ord) {b : Nat} (hb : b ∉ ord) (h1 : b < r.length) (h2 : Com r b) : Srch r (ord ++ [b]) := by
  refine ⟨?_, by simp, fun a ha => ?_⟩
  · rw [List.nodup_append]
    refine ⟨g.nd, by simp, fun a ha c hc => ?_⟩
    have : c = b := by simpa using hc
    rw [this]
    exact fun e => hb (e ▸ ha)
  · rcases List.mem_append.mp ha with ha | ha
    · exact g.ok a ha
    · have : a = b := by simpa using ha
      rw [this]
      exact ⟨h1, h2⟩
namespace Y
theorem is_map_then {m : Mem} {c : Cha} {P : D → Mem → Prop} (ok : PreRows c.n.length c.r)
    (h : ∀ b m', (b = true → OkRows c.n.length c.r) → Kp m m' → P (.bl b) m') : Tri (m__law_is_map [chaD c] m) P := by
  refine tri_fn rfl ?_
  simp [b__law_is_map, b__law_is_map_s1, chaD, -List.length_map]
  have hc1 : (m ++ [Cell.lst [D.int 0]])[m.length]? = some (.lst (([0] : List Nat).map fun i => D.int (i : Nat))) := by simp
  have hk1 : Kp m (m ++ [Cell.lst [D.int 0]]) := (Kp.refl m).push _
  generalize m ++ [Cell.lst [D.int 0]] = m1 at hc1 hk1
  simp [b__law_is_map_s2, -List.length_map]
  have pos := ok.pos
  refine while_inv (fun n η m' => ∃ (ord : List Nat) (at' : Nat), n + at' = c.r.length ∧ Srch c.r ord ∧ at' ≤ ord.length ∧ (∃ e4, η = [some (.tup [sT c.n, .tup (c.r.map rowD)]), some (.ref m.length), some (.int (at' : Nat)), none, e4, none, none]) ∧ Kp m m' ∧ m'[m.length]? = some (.lst (ord.map fun i => D.int (i : Nat)))) c.r.length (by have := ok.few; omega)
    ⟨[0], 0, by omega, Srch.zero pos, by simp, ⟨_, rfl⟩, hk1, hc1⟩ ?_
  rintro n η m' ⟨ord, at', hn, g, hle, ⟨e4, rfl⟩, hkp, hc⟩
  have glen := g.len
  simp [len_ref hc]
  by_cases hlt : at' < ord.length
  · rw [if_pos (by omega)]
    simp [b__law_is_map_0]
    have hat : ord[at']? = some ord[at'] := List.getElem?_eq_getElem hlt
    generalize ord[at'] = a at hat
    have ha := g.ok a (List.mem_of_getElem? hat)
    have e1 : gIx (.ref m.length) (.int (at' : Nat)) m' = .ok (.int (a : Nat)) m' := gIx_ref hc (atI_nat (by rw [List.getElem?_map, hat]; rfl))
    have e2 := fun m => gIx_rows (r := c.r) ha.1 m
    simp [e1, e2]
    have hxb : ∀ b, some b ∈ rAt c.r a → b < c.r.length ∧ Com c.r b := fun b hb' => by
      obtain ⟨k, hw⟩ := ok.row ha.1 hb'
      exact ⟨ok.rng _ _ _ hw, .step ha.2 hw⟩
    generalize rAt c.r a = x at hxb
    simp only [rowD]
    simp [-List.length_map]
    refine for_inv (fun k η m' => (∃ ord', Srch c.r ord' ∧ ord.length ≤ ord'.length ∧ (∃ e4, η = [some (.tup [sT c.n, .tup (c.r.map rowD)]), some (.ref m.length), some (.int (at' : Nat)), none, e4, none, none]) ∧ Kp m m' ∧ m'[m.length]? = some (.lst (ord'.map fun i => D.int (i : Nat))))) _ ⟨ord, g, Nat.le_refl _, ⟨_, rfl⟩, hkp, hc⟩ ?_ ?_
    · rintro k d η m' hd ⟨ord', g', hle', ⟨e4, rfl⟩, hkp', hc'⟩
      rw [List.getElem?_map] at hd
      cases ho : x[k]? with
      | none => rw [ho] at hd; cases hd
      | some o =>
      rw [ho] at hd
      cases hd
      cases o with
      | none =>
        simp [oD, isNon]
        exact ⟨ord', g', hle', hkp', hc'⟩
      | some b =>
        simp [oD, isNon, gIn_ints hc']
        by_cases hb : b ∈ ord'
        · simp [hb]
          exact ⟨ord', g', hle', hkp', hc'⟩
        · have hb2 := hxb b (List.mem_of_getElem? ho)
          have g2 := g'.add hb hb2.1 hb2.2
          have glen' := g'.len
          simp [hb, isTy_ref hc', append_ref hc' (by have := ok.few; simp; omega)]
          refine ⟨ord' ++ [b], g2, by simp; omega, hkp'.put (Nat.le_refl _) _, ?_⟩
          rw [List.getElem?_set_self (List.getElem?_eq_some_iff.mp hc').1]
          simp
    · rintro η m' ⟨ord', g', hle', ⟨e4, rfl⟩, hkp', hc'⟩
      simp [b__law_is_map_0s1]
      refine ⟨n - 1, by omega, ord', at' + 1, by omega, g', by omega, ?_, hkp', hc'⟩
      first | rfl | omega | simp
  · rw [if_neg (by omega)]
    have hw := ok.wf
    simp [b__law_is_map_s3, sT, -rng1R_int, rng_nat (n := c.n.length) (by omega)]
    have hfil := fun η1 => comp_filterT (g := gNm 5) (t := mTru (mCB (bAll fun bs => bs.all id) (mCons (mLc [6] false (mIt (mOp gIx (mVar 0) (mC (D.int 1)))) (gNm 6) mYes (mOp (gIs false) (mOp gIx (mVar 6) (mVar 5)) (mC D.non))) mNil))) (e := mVar 5)
      (η := [some (D.tup [D.tup (List.map D.str c.n), D.tup (List.map rowD c.r)]), some (D.ref (List.length m)), some (D.int ↑at'), none, e4, none, η1]) (m := m') (fun k : Nat => D.int (k : Nat)) (fun k : Nat => D.int (k : Nat)) (fun k => c.r.all fun x => (oAt x k).isNone) (List.range c.n.length) [] (fun k hk => by
        have hk : k < c.n.length := List.mem_range.mp hk
        refine ⟨_, rfl, ?_, fun _ => by simp⟩
        simp
        rw [comp_mapT rowD (fun x => D.bl (oAt x k).isNone) c.r [] (fun x hx => by
          have e3 := fun m => gIx_row (x := x) (k := k) (by rw [ok.wid x hx]; exact hk) m
          refine ⟨_, rfl, rfl, ?_⟩
          simp [wipeE, e3, oD_non]) (by have := ok.few; simp; omega)]
        have e4 : c.r.map (fun x => D.bl (oAt x k).isNone) = (c.r.map fun x => (oAt x k).isNone).map .bl := by rw [List.map_map]; rfl
        simp only [List.nil_append, mkL_f, bind_ok, e4, bAll_bls, truD_bl]
        rw [List.all_map]
        rfl) (by simp; omega)
    rw [rngD_nat]
    refine (tri_eq (hfil none)).mpr ?_
    simp [b__law_is_map_s4, len_ref hc]
    by_cases he : ord.length = c.r.length
    · simp [he]
      refine h _ _ (fun hb => ?_) hkp
      have hb : ∀ (a : Nat), a < c.n.length → ∃ x, x ∈ c.r ∧ ¬oAt x a = none := by simpa using hb
      refine ⟨ok.pos, ok.wid, ok.rng, fun b hb' => (g.ok b (nodup_full g.nd (fun a ha => (g.ok a ha).1) he hb')).2, fun k hk => ?_⟩
      obtain ⟨x, hx, ho⟩ := hb k hk
      obtain ⟨a, ha⟩ := List.mem_iff_getElem?.mp hx
      have hkx : k < x.length := by rw [ok.wid x hx]; exact hk
      have ho2 : oAt x k = x[k] := by unfold oAt; rw [List.getD_eq_getElem?_getD, List.getElem?_eq_getElem hkx]; rfl
      cases hq : x[k] with
      | none => rw [ho2, hq] at ho; exact absurd rfl ho
      | some b => exact ⟨a, b, x, ha, by rw [List.getElem?_eq_getElem hkx, hq]⟩
    · have he' : ¬ ((ord.length : Int) = (c.r.length : Int)) := by omega
      simp [he, he']
      exact h _ _ (fun hb => by cases hb) hkp
end Y

theorem gAdd_tup {xs ys : List D} {al : Bool} {m : Mem} (h : xs.length + ys.length ≤ 1000000) : gAdd al (.tup xs) (.tup ys) m = .ok (.tup (xs ++ ys)) m := by
  show (if xs.length + ys.length ≤ sizeLine then R.ok (D.tup (xs ++ ys)) m else .stk) = _
  rw [if_pos (size_le h)]
theorem gSl_tup {xs : List D} {lo hi : Option Int} {m : Mem} (h : xs.length ≤ 1000000) : gSl false (.tup xs) lo hi m = .ok (.tup (cutD xs lo hi)) m := by
  unfold gSl
  rfl
theorem ixN_nat {n k : Nat} (h : k < n) : ixN n ((k : Nat) : Int) = some k := by
  unfold ixN
  rw [if_pos (by omega), if_pos (by omega)]
  simp
theorem way_set {r : Rows'} {a k k' : Nat} {b : Nat} {v : Option Nat} {x : List (Option Nat)} (hx : r[a]? = some x) {a' : Nat} (hw : way (r.set a (x.set k v)) a' k' b) : way r a' k' b ∨ v = some b := by
  obtain ⟨y, e1, e2⟩ := hw
  by_cases ha : a = a'
  · subst ha
    have hal := (List.getElem?_eq_some_iff.mp hx).1
    rw [List.getElem?_set_self hal] at e1
    cases e1
    by_cases hk : k = k'
    · subst hk
      by_cases hl : k < x.length
      · rw [List.getElem?_set_self hl] at e2
        exact .inr (Option.some.inj e2)
      · rw [List.getElem?_eq_none (by rw [List.length_set]; omega)] at e2
        cases e2
    · rw [List.getElem?_set_ne hk] at e2
      exact .inl ⟨x, hx, e2⟩
  · rw [List.getElem?_set_ne ha] at e1
    exact .inl ⟨y, e1, e2⟩
namespace Y
theorem marred_then {m : Mem} {i : Nat} {c : Cha} {P : D → Mem → Prop} (hf : FlowAt m i) (ok : OkRows c.n.length c.r) (hn : c.n.length ≤ 900) (hr : c.r.length ≤ 900)
    (h : ∀ r m', OkRows c.n.length r → r.length = c.r.length → Flo m m' i → P (chaD ⟨c.n, r⟩) m') : Tri (m__law_marred [.ref i, chaD c] m) P := by
  refine tri_fn rfl ?_
  have pos := ok.pos
  simp [b__law_marred, chaD, sT]
  by_cases h0 : c.n = []
  · simp [h0]
    have := h c.r m ok rfl (Flo.refl hf)
    simpa [chaD, sT, h0] using this
  · have hp : 0 < c.n.length := List.length_pos_iff.mpr h0
    simp [h0, b__law_marred_s1, mPar]
    refine pick_then hf (by omega) (by omega) fun a m1 ha hfl => ?_
    refine pick_then hfl.at (by omega) (by omega) fun k m2 hk hfl2 => ?_
    simp [b__law_marred_s2]
    refine pick_then hfl2.at (by omega) (by omega) fun to m3 hto hfl3 => ?_
    have hfl := hfl.trans (hfl2.trans hfl3)
    have ha : a < c.r.length := by omega
    have hk : k < c.n.length := by omega
    have hxa : c.r[a]? = some (rAt c.r a) := by rw [rAt_lt ha]; exact List.getElem?_eq_getElem ha
    have hxl : (rAt c.r a).length = c.n.length := ok.wid _ (rAt_mem ha)
    have e1 := fun m => gIx_rows (r := c.r) ha m
    generalize hxe : rAt c.r a = x at hxa hxl e1
    simp [b__law_marred_s3, e1]
    simp only [rowD]
    simp [-List.length_map]
    have hi : m3.length ≠ i := by have := hfl.at.lt; omega
    have h1 : m.length ≤ m3.length := hfl.2.1
    have hfl := hfl.push (.lst (x.map oD))
    have hc1 : (m3 ++ [Cell.lst (x.map oD)])[m3.length]? = some (.lst (x.map oD)) := by simp
    generalize m3 ++ [Cell.lst (x.map oD)] = m4 at hfl hc1
    obtain ⟨v, hv, hvr⟩ : ∃ v : Option Nat, gIx (.lst [.int (to : Nat), .non]) (.int (if to = c.r.length then 1 else 0)) m4 = .ok (oD v) m4 ∧ ∀ b, v = some b → b < c.r.length := by
      by_cases q : to = c.r.length
      · exact ⟨none, by simp [q, oD], fun b e => by cases e⟩
      · exact ⟨some to, by simp [q, oD], fun b e => by cases e; omega⟩
    have hq : ((to : Int) = (c.r.length : Int)) = (to = c.r.length) := propext (by omega)
    have e2 := gSet_ref (d := oD v) hc1 (ixN_nat (n := (x.map oD).length) (k := k) (by rw [List.length_map]; omega))
    simp [b__law_marred_s4, hq, hv, e2]
    have hfl := hfl.put h1 hi (.lst ((x.map oD).set k (oD v)))
    have hc2 : (m4.set m3.length (.lst ((x.map oD).set k (oD v))))[m3.length]? = some (.lst ((x.map oD).set k (oD v))) := by rw [List.getElem?_set_self (List.getElem?_eq_some_iff.mp hc1).1]
    rw [← List.map_set] at hfl hc2 ⊢
    generalize m4.set m3.length (.lst ((x.set k v).map oD)) = m5 at hfl hc2
    simp [b__law_marred_s5]
    rw [show ((a : Int) + 1) = ((a + 1 : Nat) : Int) by omega]
    rw [gSl_tup (by rw [List.length_map]; omega), tri_ok, tuple_ref hc2, tri_ok, cutD_take, gAdd_tup (by simp; omega), tri_ok, gSl_tup (by rw [List.length_map]; omega), tri_ok, cutD_drop, gAdd_tup (by simp; omega), tri_ok]
    have er : (c.r.map rowD).take a ++ [D.tup ((x.set k v).map oD)] ++ (c.r.map rowD).drop (a + 1) = (c.r.set a (x.set k v)).map rowD := by
      generalize x.set k v = x'
      rw [List.set_eq_take_append_cons_drop, if_pos ha]
      simp [rowD]
    rw [er]
    have pre : PreRows c.n.length (c.r.set a (x.set k v)) := by
      refine ⟨by rw [List.length_set]; exact pos, by rw [List.length_set]; exact hr, hn, fun y hy => ?_, fun a' k' b hw => ?_⟩
      · rcases List.mem_or_eq_of_mem_set hy with hy | hy
        · exact ok.wid y hy
        · rw [hy, List.length_set, hxl]
      · rw [List.length_set]
        rcases way_set hxa hw with hw | hw
        · exact ok.rng _ _ _ hw
        · exact hvr b hw
    have hrl : (c.r.set a (x.set k v)).length = c.r.length := List.length_set
    generalize c.r.set a (x.set k v) = r' at pre hrl
    simp [b__law_marred_s6]
    refine is_map_then (c := ⟨c.n, r'⟩) pre fun b m6 hb hkp => ?_
    cases b with
    | false =>
      simp
      have := h c.r m6 ok rfl (hfl.kp hkp)
      simpa [chaD, sT] using this
    | true =>
      simp
      have := h r' m6 (hb rfl) hrl (hfl.kp hkp)
      simpa [chaD, sT] using this
end Y
end Mir

/-! Mir: what a yard does, gone through. -/
namespace Mir
open PySem PySem.Spec PyProof.Rows L2
/-! ### tuples of numbers, found in a list -/
theorem eqvAll_ints : ∀ xs ys : List Int, PyData.eqvAll (xs.map .int) (ys.map .int) = decide (xs = ys)
  | [], [] => rfl
  | [], y :: ys => by simp [PyData.eqvAll]
  | x :: xs, [] => by simp [PyData.eqvAll]
  | x :: xs, y :: ys => by
    rw [List.map_cons, List.map_cons]
    unfold PyData.eqvAll
    rw [eqvAll_ints xs ys]
    have : PyData.eqv (.int x) (.int y) = decide (x = y) := by
      show (x == y) = _
      by_cases q : x = y <;> simp [q]
    rw [this]
    by_cases q : x = y <;> by_cases q2 : xs = ys <;> simp [q, q2]
theorem toP_iT (m : Mem) (n : Nat) (xs : List Int) : toP m (n + 2) (iT xs) = some (.tuple (xs.map .int)) := by
  show (mapO (toP m (n + 1)) (xs.map .int)).map PyData.tuple = _
  rw [mapO_map (f := toP m (n + 1)) (g := D.int) (h := PyData.int) (fun _ => rfl) xs]
  rfl
theorem toPs_iT (m : Mem) (n : Nat) (sts : List (List Int)) : mapO (toP m (n + 2)) (sts.map iT) = some (sts.map fun st => .tuple (st.map .int)) := mapO_map (f := toP m (n + 2)) (g := iT) (h := fun st => .tuple (st.map .int)) (fun st => toP_iT m n st) sts
theorem flat_iT (st : List Int) : flatD (iT st) = none := rfl
theorem any_iT (st : List Int) : ∀ sts : List (List Int), ((sts.map fun st => PyData.tuple (st.map .int)).any fun z => PyData.eqv z (.tuple (st.map .int))) = decide (st ∈ sts)
  | [] => rfl
  | s :: sts => by
    rw [List.map_cons, List.any_cons, any_iT st sts]
    have : PyData.eqv (.tuple (s.map .int)) (.tuple (st.map .int)) = decide (s = st) := eqvAll_ints s st
    rw [this]
    by_cases q : s = st
    · simp [q]
    · have : ¬ st = s := fun e => q e.symm
      simp [q, this]
theorem find_iT {st : List Int} : ∀ {sts : List (List Int)}, st ∈ sts → (sts.map fun st => PyData.tuple (st.map .int)).findIdx? (fun z => PyData.eqv z (.tuple (st.map .int))) = some (sts.idxOf st)
  | [], h => by simp at h
  | s :: sts, h => by
    rw [List.map_cons, List.findIdx?_cons, List.idxOf_cons]
    have : PyData.eqv (.tuple (s.map .int)) (.tuple (st.map .int)) = decide (s = st) := eqvAll_ints s st
    rw [this]
    by_cases q : s = st
    · simp [q]
    · have h : st ∈ sts := by
        rcases List.mem_cons.mp h with h | h
        · exact absurd h.symm q
        · exact h
      have e2 : (s == st) = false := by simp [q]
      rw [find_iT h]
      simp [q, e2]
theorem gIn_stands {st : List Int} {sts : List (List Int)} {neg : Bool} {m : Mem} {j : Nat} (h : m[j]? = some (.lst (sts.map iT))) : gIn neg (iT st) (.ref j) m = .ok (.bl (decide (st ∈ sts) ^^ neg)) m := by
  have e : lstOf m (.ref j) = some (sts.map iT) := by simp [lstOf, h, lstC]
  show bR neg m (inOf m (iT st) (.ref j)) = _
  unfold inOf
  simp only [e, flatIn, flat_iT, inSeq, toP_iT, toPs_iT, any_iT, bR]
theorem index_stands {st : List Int} {sts : List (List Int)} {m : Mem} {j : Nat} (h : m[j]? = some (.lst (sts.map iT))) (hs : st ∈ sts) : gIndexL (.ref j) [iT st] m = .ok (.int ((sts.idxOf st : Nat) : Int)) m := by
  have e : lstOf m (.ref j) = some (sts.map iT) := by simp [lstOf, h, lstC]
  unfold gIndexL
  simp only [e, ixFlat, flat_iT, ixDeep, toP_iT, toPs_iT, find_iT hs]
/-! ### the stands of a yard -/
/-- stands as found, rows as far as they are written -/
structure Wk (hs : List Hea) (st0 : List Int) (sts : List (List Int)) (rows : Rows') : Prop where
  nd : sts.Nodup
  st0 : sts[0]? = some st0
  row : ∀ (a k : Nat) x o, rows[a]? = some x → x[k]? = some o → ∃ st, sts[a]? = some st ∧ (o = none → thereB hs st k = false) ∧ ∀ b, o = some b → thereB hs st k = true ∧ sts[b]? = some (ledL hs st k)
  com : ∀ b, b < sts.length → b = 0 ∨ ∃ a k, a < b ∧ way rows a k b
theorem Wk.mono {hs : List Hea} {st0 : List Int} {sts : List (List Int)} {rows : Rows'} {x : List (Option Nat)} {o : Option Nat} {extra : List (List Int)} (w : Wk hs st0 sts (rows ++ [x])) {st : List Int} (hst : sts[rows.length]? = some st)
    (hn : o = none → thereB hs st x.length = false) (hb : ∀ b, o = some b → thereB hs st x.length = true ∧ (sts ++ extra)[b]? = some (ledL hs st x.length)) (hnd : (sts ++ extra).Nodup) (hc : ∀ b, sts.length ≤ b → b < (sts ++ extra).length → o = some b) :
    Wk hs st0 (sts ++ extra) (rows ++ [x ++ [o]]) := by
  have up : ∀ (b : Nat) s, sts[b]? = some s → (sts ++ extra)[b]? = some s := fun b s e => by
    rw [List.getElem?_append_left (List.getElem?_eq_some_iff.mp e).1]; exact e
  have hr : rows.length < sts.length := (List.getElem?_eq_some_iff.mp hst).1
  have ways : ∀ a k b, way (rows ++ [x]) a k b → way (rows ++ [x ++ [o]]) a k b := fun a k b ⟨y, e1, e2⟩ => by
    by_cases ha : a < rows.length
    · rw [List.getElem?_append_left ha] at e1
      exact ⟨y, by rw [List.getElem?_append_left ha]; exact e1, e2⟩
    · have hl := (List.getElem?_eq_some_iff.mp e1).1
      simp at hl
      have : a = rows.length := by omega
      subst this
      simp at e1
      subst e1
      refine ⟨x ++ [o], by simp, ?_⟩
      rw [List.getElem?_append_left (List.getElem?_eq_some_iff.mp e2).1]
      exact e2
  refine ⟨hnd, up _ _ w.st0, fun a k y o' e1 e2 => ?_, fun b hb' => ?_⟩
  · by_cases ha : a < rows.length
    · rw [List.getElem?_append_left ha] at e1
      obtain ⟨s, h1, h2, h3⟩ := w.row a k y o' (by rw [List.getElem?_append_left ha]; exact e1) e2
      exact ⟨s, up _ _ h1, h2, fun b e => ⟨(h3 b e).1, up _ _ (h3 b e).2⟩⟩
    · have hl := (List.getElem?_eq_some_iff.mp e1).1
      simp at hl
      have : a = rows.length := by omega
      subst this
      simp at e1
      subst e1
      by_cases hk : k < x.length
      · rw [List.getElem?_append_left hk] at e2
        obtain ⟨s, h1, h2, h3⟩ := w.row rows.length k x o' (by simp) e2
        exact ⟨s, up _ _ h1, h2, fun b e => ⟨(h3 b e).1, up _ _ (h3 b e).2⟩⟩
      · have hkl := (List.getElem?_eq_some_iff.mp e2).1
        simp at hkl
        have : k = x.length := by omega
        subst this
        simp at e2
        subst e2
        exact ⟨st, up _ _ hst, hn, hb⟩
  · by_cases hl : b < sts.length
    · rcases w.com b hl with h | ⟨a, k, h1, h2⟩
      · exact .inl h
      · exact .inr ⟨a, k, h1, ways _ _ _ h2⟩
    · refine .inr ⟨rows.length, x.length, by omega, x ++ [o], by simp, ?_⟩
      rw [hc b (by omega) hb']
      simp
theorem Wk.nil {hs : List Hea} {st0 : List Int} {sts : List (List Int)} {rows : Rows'} (w : Wk hs st0 sts rows) : Wk hs st0 sts (rows ++ [[]]) := by
  refine ⟨w.nd, w.st0, fun a k y o' e1 e2 => ?_, fun b hb => ?_⟩
  · by_cases ha : a < rows.length
    · rw [List.getElem?_append_left ha] at e1
      exact w.row a k y o' e1 e2
    · have hl := (List.getElem?_eq_some_iff.mp e1).1
      simp at hl
      have : a = rows.length := by omega
      subst this
      simp at e1
      subst e1
      simp at e2
  · rcases w.com b hb with h | ⟨a, k, h1, y, e1, e2⟩
    · exact .inl h
    · exact .inr ⟨a, k, h1, y, by rw [List.getElem?_append_left (List.getElem?_eq_some_iff.mp e1).1]; exact e1, e2⟩

def lzR (al : Bool) (x y : D) (m : Mem) : R D := match rdS1 x m, rdS1 y m with
  | some xs, some ys => mkL al (zipW xs ys) m
  | _, _ => .stk
@[simp] theorem ap_listZip (al : Bool) (a b : EM) (η : Env') (m : Mem) : mListZip al a b η m = (a η m).bind fun x m1 => (b η m1).bind fun y m2 => lzR al x y m2 := nr rfl
@[simp] theorem lzR_tt (al : Bool) (xs ys : List D) (m : Mem) : lzR al (.tup xs) (.tup ys) m = mkL al (zipD xs ys) m := nr rfl
namespace Y
theorem walked_then {m : Mem} {y : Yar} {most : Nat} {P : D → Mem → Prop} (hf : Fit y.d.length y.h) (hl : y.h.length ≤ 900) (hd : y.d.length ≤ 900) (hm : most ≤ 900)
    (h1 : ∀ sts rows m' j, Wk y.h (y.h.map Hea.s) sts rows → rows.length = sts.length → (∀ x ∈ rows, x.length = y.d.length) → sts.length ≤ most → Kp m m' → m'[j]? = some (.lst (sts.map iT)) → P (.tup [.tup (rows.map rowD), .ref j]) m')
    (h2 : ∀ m', Kp m m' → P .non m') : Tri (m__law_walked [yarD y, .int (most : Nat)] m) P := by
  refine tri_fn rfl ?_
  simp [b__law_walked, yarD, b__law_walked_s1]
  rw [comp_mapT heaD (fun h => D.int h.s) y.h [] (fun h _ => ⟨_, rfl, rfl, by simp [wipeE, heaD]⟩) (by simp; omega)]
  have e0 : D.tup (y.h.map fun h => D.int h.s) = iT (y.h.map Hea.s) := by unfold iT; rw [List.map_map]; rfl
  simp [e0, b__law_walked_s2]
  have hs1 : (m ++ [Cell.lst [iT (y.h.map Hea.s)], Cell.lst []])[m.length]? = some (.lst ([y.h.map Hea.s].map iT)) := by simp
  have hr1 : (m ++ [Cell.lst [iT (y.h.map Hea.s)], Cell.lst []])[m.length + 1]? = some (.lst (([] : Rows').map rowD)) := by
    rw [List.getElem?_append_right (by simp)]; simp
  have hk1 : Kp m (m ++ [Cell.lst [iT (y.h.map Hea.s)], Cell.lst []]) := by
    have := ((Kp.refl m).push (Cell.lst [iT (y.h.map Hea.s)])).push (Cell.lst [])
    simpa using this
  generalize m ++ [Cell.lst [iT (y.h.map Hea.s)], Cell.lst []] = m1 at hs1 hr1 hk1
  have w1 : Wk y.h (y.h.map Hea.s) [y.h.map Hea.s] [] := ⟨by simp, rfl, fun a k x o e => by simp at e, fun b hb => .inl (by simpa using hb)⟩
  simp [b__law_walked_s3]
  refine while_inv (fun n η m' => ∃ sts rows, n + rows.length = most ∧ Wk y.h (y.h.map Hea.s) sts rows ∧ rows.length ≤ sts.length ∧ sts.length ≤ 1 + 900 * rows.length ∧ (∀ x ∈ rows, x.length = y.d.length) ∧
      (∃ e6 e7 e8 e9, η = [some (D.tup [sT y.d, D.tup (List.map heaD y.h)]), some (D.int (most : Nat)), some (D.ref m.length), some (D.ref (m.length + 1)), some (sT y.d), some (D.tup (List.map heaD y.h)), e6, e7, e8, e9, none, none]) ∧
      Kp m m' ∧ m'[m.length]? = some (.lst (sts.map iT)) ∧ m'[m.length + 1]? = some (.lst (rows.map rowD))) most (by omega) ⟨[y.h.map Hea.s], [], by simp, w1, by simp, by simp, by simp, ⟨_, _, _, _, rfl⟩, hk1, hs1, hr1⟩ ?_
  rintro n η m' ⟨sts, rows, hn, w, hle, hbig, hwid, ⟨e6, e7, e8, e9, rfl⟩, hkp, hs, hr⟩
  simp [len_ref hs, len_ref hr]
  have hend : rows.length = sts.length ∨ most < sts.length → TriS (b__law_walked_s4 [some (D.tup [sT y.d, D.tup (List.map heaD y.h)]), some (D.int ↑most), some (D.ref (List.length m)), some (D.ref (List.length m + 1)), some (sT y.d), some (D.tup (List.map heaD y.h)), e6, e7, e8, e9, none, none] m') (fun x m => P D.non m) P := by
    intro hq
    simp [b__law_walked_s4, tuple_ref hr, len_ref hs]
    by_cases hgt : most < sts.length
    · simp [hgt]
      exact h2 m' hkp
    · simp [hgt]
      exact h1 sts rows m' _ w (by omega) hwid (by omega) hkp hs
  by_cases hlt : rows.length < sts.length
  · rw [if_pos hlt]
    by_cases hmo : sts.length ≤ most
    · rw [if_pos hmo]
      simp [b__law_walked_2]
      have hkx : m'.length ≠ m.length := by have := (List.getElem?_eq_some_iff.mp hs).1; omega
      have hkr : m'.length ≠ m.length + 1 := by have := (List.getElem?_eq_some_iff.mp hr).1; omega
      have hs := (Kp.refl m').push (Cell.lst []) |>.get hs
      have hr := (Kp.refl m').push (Cell.lst []) |>.get hr
      have hx : (m' ++ [Cell.lst []])[m'.length]? = some (.lst (([] : List (Option Nat)).map oD)) := by simp
      have hml : m.length ≤ m'.length := hkp.1
      have hkp := hkp.push (Cell.lst [])
      generalize hjx : m'.length = jx at hkx hkr hx hml
      generalize m' ++ [Cell.lst []] = m2 at hs hr hx hkp
      obtain ⟨st, hst⟩ : ∃ st, sts[rows.length]? = some st := ⟨_, List.getElem?_eq_getElem hlt⟩
      simp [b__law_walked_2s1, sT, -rng1R_int, rng_nat (n := y.d.length) (by omega)]
      refine for_inv (fun k η m' => ∃ sts' x, x.length = k ∧ Wk y.h (y.h.map Hea.s) sts' (rows ++ [x]) ∧ sts'[rows.length]? = some st ∧ sts.length ≤ sts'.length ∧ sts'.length ≤ sts.length + k ∧
        (∃ e7 e8 e9, η = [some (D.tup [D.tup (y.d.map D.str), D.tup (List.map heaD y.h)]), some (D.int (most : Nat)), some (D.ref m.length), some (D.ref (m.length + 1)), some (D.tup (y.d.map D.str)), some (D.tup (List.map heaD y.h)), some (.ref jx), e7, e8, e9, none, none]) ∧
        Kp m m' ∧ m'[m.length]? = some (.lst (sts'.map iT)) ∧ m'[m.length + 1]? = some (.lst (rows.map rowD)) ∧ m'[jx]? = some (.lst (x.map oD))) _ ⟨sts, [], rfl, w.nil, hst, Nat.le_refl _, by simp, ⟨_, _, _, rfl⟩, hkp, hs, hr, hx⟩ ?_ ?_
      · rintro k d η m3 hd' ⟨sts', x, hxl, w', hst', hge', hle', ⟨e7, e8, e9, rfl⟩, hkp', hs', hr', hx'⟩
        rw [rngD_nat, List.getElem?_map] at hd'
        have hk : k < y.d.length := by
          cases hq : (List.range y.d.length)[k]? with
          | none => rw [hq] at hd'; cases hd'
          | some z => have := (List.getElem?_eq_some_iff.mp hq).1; simpa using this
        rw [List.getElem?_range hk] at hd'
        cases hd'
        simp [b__law_walked_1, isTy_ref hx', append_ref hx' (by simp; omega)]
        have hkp3 := hkp'.put (j := jx) (by omega) (.lst (x.map oD ++ [.non]))
        have hs3 : (m3.set jx (.lst (x.map oD ++ [.non])))[m.length]? = some (.lst (sts'.map iT)) := by rw [List.getElem?_set_ne hkx]; exact hs'
        have hr3 : (m3.set jx (.lst (x.map oD ++ [.non])))[m.length + 1]? = some (.lst (rows.map rowD)) := by rw [List.getElem?_set_ne hkr]; exact hr'
        have hx3 : (m3.set jx (.lst (x.map oD ++ [.non])))[jx]? = some (.lst ((x ++ [none]).map oD)) := by
          rw [List.getElem?_set_self (List.getElem?_eq_some_iff.mp hx').1]; simp [oD]
        generalize m3.set jx (.lst (x.map oD ++ [.non])) = m4 at hkp3 hs3 hr3 hx3
        have e1 : gIx (.ref m.length) (.int (rows.length : Nat)) m4 = .ok (iT st) m4 := gIx_ref hs3 (atI_nat (by rw [List.getElem?_map, hst']; rfl))
        simp [b__law_walked_1s1, len_ref hr3, e1]
        simp only [iT, lzR_tt, mkL_f, tri_ok, bind_ok, zipD_map]
        simp [b__law_walked_1s2, -List.length_map]
        rw [comp_mapT (fun p : Hea × Int => D.tup [heaD p.1, .int p.2]) (fun p => D.bl (decide (tk p.1 k ≤ p.2))) (y.h.zip st) [] (fun p hp => by
          have hh := hf p.1 (List.of_mem_zip hp).1
          have e1 := fun m => gIx_iT (xs := p.1.t) (k := k) (by omega) m
          refine ⟨_, rfl, rfl, ?_⟩
          simp [wipeE, heaD, e1, tk]) (by simp; omega)]
        have e2 : (y.h.zip st).map (fun p => D.bl (decide (tk p.1 k ≤ p.2))) = ((y.h.zip st).map fun p => decide (tk p.1 k ≤ p.2)).map .bl := by rw [List.map_map]; rfl
        have e3 : ((y.h.zip st).map fun p => decide (tk p.1 k ≤ p.2)).all id = thereB y.h st k := by rw [← there_swap, List.all_map]; rfl
        simp only [tri_ok, List.nil_append, e2, bAll_bls, e3, truD_bl]
        cases htb : thereB y.h st k with
        | false =>
          simp
          refine ⟨sts', x ++ [none], by simp; omega, ?_, hst', hge', by omega, hkp3, hs3, hr3, by simpa using hx3⟩
          have := w'.mono (extra := []) (o := none) hst' (fun _ => by rw [hxl]; exact htb) (fun b e => by cases e) (by simpa using w'.nd) (fun b h1 h2 => by simp at h2; omega)
          simpa using this
        | true =>
          simp [b__law_walked_0, -List.length_map]
          rw [comp_mapT (fun p : Hea × Int => D.tup [heaD p.1, .int p.2]) (fun p => D.int (p.2 - tk p.1 k + lk p.1 k)) (y.h.zip st) [] (fun p hp => by
            have hh := hf p.1 (List.of_mem_zip hp).1
            have e1 := fun m => gIx_iT (xs := p.1.t) (k := k) (by omega) m
            have e2 := fun m => gIx_iT (xs := p.1.l) (k := k) (by omega) m
            refine ⟨_, rfl, rfl, ?_⟩
            simp [wipeE, heaD, e1, e2, tk, lk]) (by simp; omega)]
          have e4 : D.tup ((y.h.zip st).map fun p => D.int (p.2 - tk p.1 k + lk p.1 k)) = iT (ledL y.h st k) := by
            rw [← led_swap]; unfold iT; rw [List.map_map]; rfl
          simp [e4]
          generalize hled : ledL y.h st k = led at e4
          have last : ∀ (m5 : Mem) (extra : List (List Int)) {N : Env' → Mem → Prop} {B C : Env' → Mem → Prop} {Rt : D → Mem → Prop}, Kp m m5 → m5[m.length]? = some (.lst ((sts' ++ extra).map iT)) → m5[m.length + 1]? = some (.lst (rows.map rowD)) → m5[jx]? = some (.lst ((x ++ [none]).map oD)) →
              led ∈ sts' ++ extra → (sts' ++ extra).Nodup → extra.length ≤ 1 → (∀ b, sts'.length ≤ b → b < (sts' ++ extra).length → b = (sts' ++ extra).idxOf led) →
              (∀ m6, Kp m m6 → m6[m.length]? = some (.lst ((sts' ++ extra).map iT)) → m6[m.length + 1]? = some (.lst (rows.map rowD)) → m6[jx]? = some (.lst ((x ++ [some ((sts' ++ extra).idxOf led)]).map oD)) → N [some (D.tup [D.tup (List.map D.str y.d), D.tup (List.map heaD y.h)]), some (D.int ↑most), some (D.ref (List.length m)), some (D.ref (List.length m + 1)), some (D.tup (List.map D.str y.d)), some (D.tup (List.map heaD y.h)), some (D.ref jx), some (D.int ↑k), some (D.lst (List.map (fun p => D.tup [heaD p.fst, D.int p.snd]) (y.h.zip st))), some (iT led), none, none] m6) →
              TriQ (b__law_walked_0s2 [some (D.tup [D.tup (List.map D.str y.d), D.tup (List.map heaD y.h)]), some (D.int ↑most), some (D.ref (List.length m)), some (D.ref (List.length m + 1)), some (D.tup (List.map D.str y.d)), some (D.tup (List.map heaD y.h)), some (D.ref jx), some (D.int ↑k), some (D.lst (List.map (fun p => D.tup [heaD p.fst, D.int p.snd]) (y.h.zip st))), some (iT led), none, none] m5) N B C Rt := by
            intro m5 extra N B C Rt hk5 hs5 hr5 hx5 hmem hnd5 hex hidx hN
            have e5 := gSet_ref (d := oD (some ((sts' ++ extra).idxOf led))) hx5 (ixN_nat (n := ((x ++ [none]).map oD).length) (k := k) (by simp; omega))
            have e6 : ((x ++ [none]).map oD).set k (oD (some ((sts' ++ extra).idxOf led))) = (x ++ [some ((sts' ++ extra).idxOf led)]).map oD := by
              rw [← List.map_set]
              congr 1
              rw [List.set_append_right _ _ (by omega), hxl, Nat.sub_self]
              rfl
            rw [e6] at e5
            have e7 : D.int (((sts' ++ extra).idxOf led : Nat) : Int) = oD (some ((sts' ++ extra).idxOf led)) := rfl
            simp only [b__law_walked_0s2]
            generalize sts' ++ extra = sts5 at hs5 hmem hnd5 hidx hN e5 e6 e7
            simp [isTy_ref hs5, index_stands hs5 hmem]
            rw [e7, e5]
            simp only [tri_ok]
            refine hN _ (hk5.put (by omega) _) (by rw [List.getElem?_set_ne hkx]; exact hs5) (by rw [List.getElem?_set_ne hkr]; exact hr5) ?_
            rw [List.getElem?_set_self (List.getElem?_eq_some_iff.mp hx5).1]
          simp [b__law_walked_0s1, gIn_stands hs3]
          by_cases hin : led ∈ sts'
          · simp [hin]
            refine last m4 [] hkp3 (by simpa using hs3) hr3 hx3 (by simpa using hin) (by simpa using w'.nd) (by simp) (fun b h1 h2 => by simp at h2; omega) fun m6 k6 s6 r6 x6 => ?_
            rw [List.append_nil] at s6 x6
            refine ⟨sts', x ++ [some (sts'.idxOf led)], by simp; omega, ?_, hst', hge', by omega, ⟨_, _, _, rfl⟩, k6, s6, r6, x6⟩
            have := w'.mono (extra := []) (o := some (sts'.idxOf led)) hst' (fun e => by cases e) (fun b e => by
              cases e
              rw [hxl, hled]
              refine ⟨htb, ?_⟩
              rw [List.append_nil, List.getElem?_eq_getElem (List.idxOf_lt_length_iff.mpr hin), List.getElem_idxOf]) (by simpa using w'.nd) (fun b h1 h2 => by simp at h2; omega)
            simpa using this
          · simp [hin, isTy_ref hs3, append_ref hs3 (by simp; omega)]
            have hidx : (sts' ++ [led]).idxOf led = sts'.length := by
              rw [List.idxOf_append, if_neg hin]
              simp
            have hnd : (sts' ++ [led]).Nodup := by
              rw [List.nodup_append]
              refine ⟨w'.nd, by simp, fun a ha c hc => ?_⟩
              have : c = led := by simpa using hc
              rw [this]
              exact fun e => hin (e ▸ ha)
            refine last _ [led] (hkp3.put (Nat.le_refl _) _) ?_ (by rw [List.getElem?_set_ne (by omega)]; exact hr3) (by rw [List.getElem?_set_ne (fun e => hkx e.symm)]; exact hx3) (by simp) hnd (by simp) (fun b h1 h2 => by rw [hidx]; simp at h2; omega) fun m6 k6 s6 r6 x6 => ?_
            · rw [List.getElem?_set_self (List.getElem?_eq_some_iff.mp hs3).1]
              simp
            · rw [hidx] at x6
              refine ⟨sts' ++ [led], x ++ [some sts'.length], by simp; omega, ?_, by rw [List.getElem?_append_left (List.getElem?_eq_some_iff.mp hst').1]; exact hst', by simp; omega, by simp; omega, ⟨_, _, _, rfl⟩, k6, s6, r6, x6⟩
              exact w'.mono (extra := [led]) (o := some sts'.length) hst' (fun e => by cases e) (fun b e => by
                cases e
                rw [hxl, hled]
                exact ⟨htb, by simp⟩) hnd (fun b h1 h2 => by simp at h2; congr 1; omega)
      · rintro η m3 ⟨sts', x, hxl, w', hst', hge', hle', ⟨e7, e8, e9, rfl⟩, hkp', hs', hr', hx'⟩
        simp at hxl hle'
        simp [b__law_walked_2s2, isTy_ref hr', tuple_ref hx', append_ref hr' (by simp; omega)]
        refine ⟨n - 1, by omega, sts', rows ++ [x], by simp; omega, w', by simp; omega, by simp; omega, fun z hz => ?_, hkp'.put (by omega) _, hs', ?_⟩
        · rcases List.mem_append.mp hz with hz | hz
          · exact hwid z hz
          · have : z = x := by simpa using hz
            rw [this]; exact hxl
        · rw [List.getElem?_set_self (List.getElem?_eq_some_iff.mp hr').1]
          simp [rowD]
    · rw [if_neg hmo]
      exact hend (.inr (by omega))
  · rw [if_neg hlt]
    exact hend (.inl (by omega))
end Y

/-! ### the map that a yard does -/
def doneL (d : Nat) (rows : Rows') : List Nat := (List.range d).filter fun k => rows.any fun x => (oAt x k).isSome
def nAt (ns : List Str) (k : Nat) : Str := ns.getD k (Str.ofString "")
theorem nAt_lt {ns : List Str} {k : Nat} (h : k < ns.length) : ns[k]? = some (nAt ns k) := by
  unfold nAt
  rw [List.getD_eq_getElem?_getD, List.getElem?_eq_getElem h]
  rfl
def selC (ns : List Str) (rows : Rows') : Cha := ⟨(doneL ns.length rows).map (nAt ns), rows.map fun x => (doneL ns.length rows).map (oAt x)⟩
theorem oAt_eq {x : List (Option Nat)} {k : Nat} {o : Option Nat} (h : x[k]? = some o) : oAt x k = o := by
  unfold oAt
  rw [List.getD_eq_getElem?_getD, h]
  rfl
theorem oAt_get {x : List (Option Nat)} {k : Nat} (h : k < x.length) : x[k]? = some (oAt x k) := by
  unfold oAt
  rw [List.getD_eq_getElem?_getD, List.getElem?_eq_getElem h]
  rfl
theorem map_nAt (ns : List Str) : (List.range ns.length).map (nAt ns) = ns := by
  refine List.ext_getElem? fun k => ?_
  by_cases h : k < ns.length
  · rw [List.getElem?_map, List.getElem?_range h, nAt_lt h]
    rfl
  · rw [List.getElem?_eq_none (by simp; omega), List.getElem?_eq_none (by omega)]
theorem Nms.sub {ns ms : List Str} (h : Nms ns) (s : ms.Sublist ns) : Nms ms := ⟨fun x hx => h.nm x (s.subset hx), h.up.sublist s⟩
theorem Wk.comAll {hs : List Hea} {st0 : List Int} {sts : List (List Int)} {rows : Rows'} (w : Wk hs st0 sts rows) : ∀ n b, b ≤ n → b < sts.length → Com rows b
  | 0, b, h, _ => by
    have : b = 0 := by omega
    rw [this]; exact .zero
  | n + 1, b, h, hb => by
    rcases w.com b hb with e | ⟨a, k, h1, h2⟩
    · rw [e]; exact .zero
    · exact .step (w.comAll n a (by omega) (by omega)) h2
theorem selC_ok {ns : List Str} {hs : List Hea} {st0 : List Int} {sts : List (List Int)} {rows : Rows'} (hn : Nms ns) (w : Wk hs st0 sts rows) (hl : rows.length = sts.length) (hw : ∀ x ∈ rows, x.length = ns.length) : OkCha (selC ns rows) := by
  have rng : ∀ a k b, way rows a k b → b < rows.length := fun a k b ⟨x, e1, e2⟩ => by
    obtain ⟨st, _, _, h3⟩ := w.row a k x _ e1 e2
    rw [hl]
    exact (List.getElem?_eq_some_iff.mp (h3 b rfl).2).1
  have mem : ∀ a k b, way rows a k b → k ∈ doneL ns.length rows := fun a k b ⟨x, e1, e2⟩ => by
    unfold doneL
    have hk := (List.getElem?_eq_some_iff.mp e2).1
    have hx := List.mem_of_getElem? e1
    rw [List.mem_filter, List.mem_range]
    refine ⟨by rw [← hw x hx]; exact hk, ?_⟩
    rw [List.any_eq_true]
    exact ⟨x, hx, by rw [oAt_eq e2]; rfl⟩
  have fwd : ∀ a k b, way rows a k b → way (selC ns rows).r a ((doneL ns.length rows).idxOf k) b := fun a k b hw' => by
    have hm := mem a k b hw'
    obtain ⟨x, e1, e2⟩ := hw'
    refine ⟨(doneL ns.length rows).map (oAt x), ?_, ?_⟩
    · show (rows.map _)[a]? = _
      rw [List.getElem?_map, e1]; rfl
    · rw [List.getElem?_map, List.getElem?_eq_getElem (List.idxOf_lt_length_iff.mpr hm), List.getElem_idxOf]
      show some (oAt x k) = _
      rw [oAt_eq e2]
  have bwd : ∀ a j b, way (selC ns rows).r a j b → ∃ k, (doneL ns.length rows)[j]? = some k ∧ way rows a k b := fun a j b ⟨x', e1, e2⟩ => by
    have e1 : (rows.map fun x => (doneL ns.length rows).map (oAt x))[a]? = some x' := e1
    rw [List.getElem?_map] at e1
    cases hx : rows[a]? with
    | none => rw [hx] at e1; cases e1
    | some x =>
      rw [hx] at e1
      cases e1
      rw [List.getElem?_map] at e2
      cases hk : (doneL ns.length rows)[j]? with
      | none => rw [hk] at e2; cases e2
      | some k =>
        rw [hk] at e2
        have e3 : oAt x k = some b := by simpa using e2
        refine ⟨k, rfl, x, hx, ?_⟩
        have hkl : k < x.length := by
          have := List.mem_of_getElem? hk
          unfold doneL at this
          rw [List.mem_filter, List.mem_range] at this
          rw [hw x (List.mem_of_getElem? hx)]
          exact this.1
        rw [oAt_get hkl, e3]
  have rl : (selC ns rows).r.length = rows.length := by unfold selC; simp
  have nl : (selC ns rows).n.length = (doneL ns.length rows).length := by unfold selC; simp
  refine ⟨?_, ?_⟩
  · refine hn.sub ?_
    have : List.Sublist (((List.range ns.length).filter fun k => rows.any fun x => (oAt x k).isSome).map (nAt ns)) ((List.range ns.length).map (nAt ns)) := List.Sublist.map _ List.filter_sublist
    rw [map_nAt] at this
    exact this
  · refine ⟨?_, fun x hx => ?_, fun a k b hw' => ?_, fun b hb => ?_, fun j hj => ?_⟩
    · rw [rl, hl]; exact (List.getElem?_eq_some_iff.mp w.st0).1
    · have hx : x ∈ rows.map fun x => (doneL ns.length rows).map (oAt x) := hx
      obtain ⟨z, _, rfl⟩ := List.mem_map.mp hx
      rw [nl, List.length_map]
    · obtain ⟨k', _, hw2⟩ := bwd a k b hw'
      rw [rl]; exact rng _ _ _ hw2
    · rw [rl, hl] at hb
      have hc := w.comAll b b (Nat.le_refl _) hb
      clear hb
      induction hc with
      | zero => exact .zero
      | step h1 h2 ih => exact .step ih (fwd _ _ _ h2)
    · rw [nl] at hj
      have hm : (doneL ns.length rows)[j] ∈ doneL ns.length rows := List.getElem_mem hj
      have hm2 := hm
      unfold doneL at hm
      rw [List.mem_filter, List.any_eq_true] at hm
      obtain ⟨_, x, hx, ho⟩ := hm
      obtain ⟨a, ha⟩ := List.mem_iff_getElem?.mp hx
      obtain ⟨b, hb⟩ := Option.isSome_iff_exists.mp ho
      have hk : (doneL ns.length rows)[j] < x.length := by
        unfold doneL at hm2
        rw [List.mem_filter, List.mem_range] at hm2
        rw [hw x hx]
        exact hm2.1
      refine ⟨a, b, (doneL ns.length rows).map (oAt x), ?_, ?_⟩
      · show (rows.map _)[a]? = _
        rw [List.getElem?_map, ha]; rfl
      · rw [List.getElem?_map, List.getElem?_eq_getElem hj]
        show some (oAt x _) = _
        rw [← hb]
        rfl

namespace Y
theorem map_of_then {m : Mem} {y : Yar} {most : Nat} {P : D → Mem → Prop} (hf : Fit y.d.length y.h) (hl : y.h.length ≤ 900) (hd : y.d.length ≤ 900) (hm : most ≤ 900)
    (h1 : ∀ sts rows m', Wk y.h (y.h.map Hea.s) sts rows → rows.length = sts.length → (∀ x ∈ rows, x.length = y.d.length) → sts.length ≤ most → Kp m m' → P (chaD (selC y.d rows)) m')
    (h2 : ∀ m', Kp m m' → P .non m') : Tri (m__law_map_of [yarD y, .int (most : Nat)] m) P := by
  refine tri_fn rfl ?_
  simp [b__law_map_of]
  refine walked_then hf hl hd hm (fun sts rows m' j w hrl hwid hmo hkp hj => ?_) (fun m' hkp => ?_)
  · simp [b__law_map_of_s1, isNon, b__law_map_of_s2]
    simp only [yarD, sT]
    simp [b__law_map_of_s3, -rng1R_int, rng_nat (n := y.d.length) (by omega)]
    rw [rngD_nat]
    have hfil := comp_filterT (g := gNm 5) (t := mTru (mCB (bAll fun bs => bs.any id) (mCons (mLc [6] false (mIt (mVar 3)) (gNm 6) mYes (mOp (gIs true) (mOp gIx (mVar 6) (mVar 5)) (mC .non))) mNil))) (e := mVar 5)
      (η := [some (.tup [.tup (y.d.map .str), .tup (y.h.map heaD)]), some (.int (most : Nat)), some (.tup [.tup (rows.map rowD), .ref j]), some (.tup (rows.map rowD)), none, none, none]) (m := m') (fun k : Nat => D.int (k : Nat)) (fun k : Nat => D.int (k : Nat)) (fun k => rows.any fun x => (oAt x k).isSome) (List.range y.d.length) [] (fun k hk => by
        have hk : k < y.d.length := List.mem_range.mp hk
        refine ⟨_, rfl, ?_, fun _ => by simp⟩
        simp
        rw [comp_mapT rowD (fun x => D.bl (oAt x k).isSome) rows [] (fun x hx => by
          have e3 := fun m => gIx_row (x := x) (k := k) (by rw [hwid x hx]; exact hk) m
          refine ⟨_, rfl, rfl, ?_⟩
          simp [wipeE, e3, oD_non]) (by simp; omega)]
        have e4 : rows.map (fun x => D.bl (oAt x k).isSome) = (rows.map fun x => (oAt x k).isSome).map .bl := by rw [List.map_map]; rfl
        simp only [List.nil_append, mkL_f, bind_ok, e4, bAll_bls, truD_bl]
        rw [List.any_map]
        rfl) (by simp; omega)
    refine (tri_eq hfil).mpr ?_
    have hdl : ∀ k ∈ doneL y.d.length rows, k < y.d.length := fun k hk => by
      unfold doneL at hk
      rw [List.mem_filter, List.mem_range] at hk
      exact hk.1
    have hdn : (doneL y.d.length rows).length ≤ 900 := by
      have : (doneL y.d.length rows).length ≤ (List.range y.d.length).length := List.length_filter_le _ _
      rw [List.length_range] at this
      omega
    have := h1 sts rows m' w hrl hwid hmo hkp
    unfold selC chaD sT at this
    show TriS (b__law_map_of_s4 [_, _, _, _, some (.lst ([] ++ (doneL y.d.length rows).map fun k : Nat => D.int (k : Nat))), _, _] m') _ _
    generalize doneL y.d.length rows = dn at hdl hdn this
    simp [b__law_map_of_s4, -List.length_map]
    rw [comp_mapT (fun k : Nat => D.int (k : Nat)) (fun k => D.str (nAt y.d k)) dn [] (fun k hk => by
      have e3 := fun m => gIx_sT (xs := y.d) (nAt_lt (hdl k hk)) m
      unfold sT at e3
      refine ⟨_, rfl, rfl, ?_⟩
      simp [wipeE, e3]) (by simp; omega)]
    simp only [tri_ok, List.nil_append]
    rw [comp_mapT rowD (fun x => rowD (dn.map (oAt x))) rows [] (fun x hx => by
      refine ⟨_, rfl, rfl, ?_⟩
      simp [wipeE, -List.length_map]
      rw [comp_mapT (fun k : Nat => D.int (k : Nat)) (fun k => oD (oAt x k)) dn [] (fun k hk => by
        have e3 := fun m => gIx_row (x := x) (k := k) (by rw [hwid x hx]; exact hdl k hk) m
        refine ⟨_, rfl, rfl, ?_⟩
        simp [wipeE, e3]) (by simp; omega)]
      simp [rowD]) (by simp; omega)]
    simp only [tri_ok, List.nil_append, bTuple_lst]
    rw [List.map_map, List.map_map] at this
    exact this
  · simp [b__law_map_of_s1, isNon]
    exact h2 m' hkp
end Y
end Mir

/-! Mir: maps that are drawn row by row. -/
namespace Mir
open PySem PySem.Spec PyProof.Rows L2
/-! ### rows kept as cells -/
def refs (j n : Nat) : List D := (List.range n).map fun a => D.ref (j + a)
structure RowsAt (m : Mem) (j : Nat) (r : Rows') : Prop where
  at' : ∀ a x, r[a]? = some x → m[j + a]? = some (.lst (x.map oD))
theorem comp_cells {g : GM} {e : EM} {η : Env'} {m : Mem} {ds : List D} {c : Cell} (hl : ds.length ≤ 1000000) (h : ∀ d ∈ ds, ∀ m', ∃ η1, g d η m' = .ok η1 m' ∧ e η1 m' = .ok (.ref m'.length) (m' ++ [c])) :
    compD g mYes e η ds m [] = .ok (refs m.length ds.length) (m ++ List.replicate ds.length c) := by
  have key : Tri (compD g mYes e η ds m []) (fun acc m' => acc = refs m.length ds.length ∧ m' = m ++ List.replicate ds.length c) := by
    refine comp_inv (fun k m' acc => acc = refs m.length k ∧ m' = m ++ List.replicate k c) ds ⟨rfl, by simp⟩ ?_
    rintro k d m' acc hd hk ⟨rfl, rfl⟩
    obtain ⟨η1, e1, e2⟩ := h d hd (m ++ List.replicate k c)
    have hlen : (refs m.length k).length < sizeLine := by unfold refs; rw [List.length_map, List.length_range]; exact size_lt (by omega)
    simp [e1, e2, hlen]
    constructor
    · unfold refs
      rw [List.range_succ, List.map_append]
      rfl
    · rw [List.replicate_succ']
  obtain ⟨a, m', e1, rfl, rfl⟩ := key.ex
  exact e1
theorem gIx_refs {j n a : Nat} (h : a < n) (m : Mem) : gIx (.lst (refs j n)) (.int (a : Nat)) m = .ok (.ref (j + a)) m := by
  refine gIx_lst (Y.atI_nat ?_)
  unfold refs
  rw [List.getElem?_map, List.getElem?_range h]
  rfl
def setR (r : Rows') (a k : Nat) (v : Option Nat) : Rows' := r.set a ((rAt r a).set k v)
theorem setR_len (r : Rows') (a k : Nat) (v : Option Nat) : (setR r a k v).length = r.length := List.length_set
theorem setR_wid {w : Nat} {r : Rows'} (h : ∀ x ∈ r, x.length = w) {a k : Nat} {v : Option Nat} (ha : a < r.length) : ∀ x ∈ setR r a k v, x.length = w := fun x hx => by
  rcases List.mem_or_eq_of_mem_set hx with hx | hx
  · exact h x hx
  · rw [hx, List.length_set]; exact h _ (rAt_mem ha)
theorem rAt_some {r : Rows'} {a : Nat} (ha : a < r.length) : r[a]? = some (rAt r a) := by rw [rAt_lt ha]; exact List.getElem?_eq_getElem ha
theorem setR_new {r : Rows'} {a k b : Nat} (ha : a < r.length) (hk : k < (rAt r a).length) : way (setR r a k (some b)) a k b :=
  ⟨_, List.getElem?_set_self ha, List.getElem?_set_self hk⟩
theorem setR_old {r : Rows'} {a k a' k' b : Nat} {v : Option Nat} (hw : way r a' k' b) (hne : a' ≠ a ∨ k' ≠ k) : way (setR r a k v) a' k' b := by
  obtain ⟨x, e1, e2⟩ := hw
  by_cases ha : a = a'
  · subst ha
    have hk : k ≠ k' := by
      rcases hne with h | h
      · exact absurd rfl h
      · exact fun e => h e.symm
    refine ⟨_, List.getElem?_set_self (List.getElem?_eq_some_iff.mp e1).1, ?_⟩
    rw [List.getElem?_set_ne hk, rAt_eq e1]
    exact e2
  · exact ⟨x, by unfold setR; rw [List.getElem?_set_ne ha]; exact e1, e2⟩
theorem setR_keep {r : Rows'} {a k a' k' b : Nat} {v : Option Nat} (hw : way r a' k' b) (ho : oAt (rAt r a) k = none) : way (setR r a k v) a' k' b := by
  refine setR_old hw ?_
  by_cases ha : a' = a
  · by_cases hk : k' = k
    · subst ha hk
      obtain ⟨x, e1, e2⟩ := hw
      rw [rAt_eq e1, oAt_eq e2] at ho
      cases ho
    · exact .inr hk
  · exact .inl ha
theorem setR_back {r : Rows'} {a k a' k' b : Nat} {v : Option Nat} (ha : a < r.length) (hw : way (setR r a k v) a' k' b) : way r a' k' b ∨ v = some b := way_set (rAt_some ha) hw
theorem setR_rng {r : Rows'} {a k b : Nat} (ha : a < r.length) (h : ∀ a' k' b', way r a' k' b' → b' < r.length) (hb : b < r.length) : ∀ a' k' b', way (setR r a k (some b)) a' k' b' → b' < (setR r a k (some b)).length := fun a' k' b' hw => by
  rw [setR_len]
  rcases setR_back ha hw with hw | e
  · exact h _ _ _ hw
  · cases e; exact hb
theorem setR_at {r : Rows'} {a k a' k' : Nat} {v : Option Nat} (ha : a < r.length) (hk : k < (rAt r a).length) : oAt (rAt (setR r a k v) a') k' = if a' = a ∧ k' = k then v else oAt (rAt r a') k' := by
  by_cases e : a' = a
  · subst e
    have e1 : rAt (setR r a' k v) a' = (rAt r a').set k v := rAt_eq (List.getElem?_set_self ha)
    rw [e1]
    by_cases e2 : k' = k
    · subst e2
      rw [if_pos ⟨rfl, rfl⟩]
      exact oAt_eq (List.getElem?_set_self hk)
    · rw [if_neg (fun q => e2 q.2)]
      unfold oAt
      rw [List.getD_eq_getElem?_getD, List.getD_eq_getElem?_getD, List.getElem?_set_ne (fun q => e2 q.symm)]
  · rw [if_neg (fun q => e q.1)]
    have : rAt (setR r a k v) a' = rAt r a' := by
      unfold rAt setR
      rw [List.getD_eq_getElem?_getD, List.getD_eq_getElem?_getD, List.getElem?_set_ne (fun q => e q.symm)]
    rw [this]
theorem RowsAt.set {m : Mem} {j : Nat} {r : Rows'} (h : RowsAt m j r) {a k : Nat} {v : Option Nat} (ha : a < r.length) (hk : k < (rAt r a).length) :
    gSet (.ref (j + a)) (.int (k : Nat)) (oD v) m = .ok () (m.set (j + a) (.lst (((rAt r a).set k v).map oD))) ∧ RowsAt (m.set (j + a) (.lst (((rAt r a).set k v).map oD))) j (setR r a k v) := by
  have hx := h.at' a _ (rAt_some ha)
  constructor
  · have := gSet_ref (d := oD v) hx (ixN_nat (n := ((rAt r a).map oD).length) (k := k) (by rw [List.length_map]; exact hk))
    rw [← List.map_set] at this
    exact this
  · refine ⟨fun a' x e => ?_⟩
    by_cases q : a' = a
    · subst q
      unfold setR at e
      rw [List.getElem?_set_self ha] at e
      cases e
      rw [List.getElem?_set_self (List.getElem?_eq_some_iff.mp hx).1]
    · unfold setR at e
      rw [List.getElem?_set_ne (fun z => q z.symm)] at e
      rw [List.getElem?_set_ne (by omega)]
      exact h.at' a' x e
theorem RowsAt.flo {m m' : Mem} {i j : Nat} {r : Rows'} (h : RowsAt m j r) (k : Flo m m' i) (hi : i < j) : RowsAt m' j r := ⟨fun a x e => k.get (by omega) (h.at' a x e)⟩
theorem RowsAt.kp {m m' : Mem} {j : Nat} {r : Rows'} (h : RowsAt m j r) (k : Kp m m') : RowsAt m' j r := ⟨fun a x e => k.get (h.at' a x e)⟩
theorem RowsAt.get {m : Mem} {j : Nat} {r : Rows'} (h : RowsAt m j r) {a k : Nat} (ha : a < r.length) (hk : k < (rAt r a).length) : gIx (.ref (j + a)) (.int (k : Nat)) m = .ok (oD (oAt (rAt r a) k)) m := by
  refine gIx_ref (h.at' a _ (rAt_some ha)) (Y.atI_nat ?_)
  rw [List.getElem?_map, oAt_get hk]
  rfl
theorem RowsAt.tuples {m : Mem} {j n : Nat} {r : Rows'} {η : Env'} {v : Nat} (h : RowsAt m j r) (hn : r.length = n) (hl : n ≤ 900) (hv : v < η.length) :
    compD (gNm v) mYes (mCB bTuple (mCons (mVar v) mNil)) η (refs j n) m [] = .ok (r.map rowD) m := by
  unfold refs
  rw [comp_mapT (fun a : Nat => D.ref (j + a)) (fun a => rowD (rAt r a)) (List.range n) [] (fun a ha => by
    have ha : a < r.length := by rw [hn]; exact List.mem_range.mp ha
    refine ⟨_, rfl, rfl, ?_⟩
    have e : (η.set v (some (D.ref (j + a))))[v]? = some (some (D.ref (j + a))) := List.getElem?_set_self hv
    simp [mVar, varR, e, tuple_ref (h.at' a _ (rAt_some ha)), rowD]) (by simp; omega)]
  congr 1
  refine List.ext_getElem? fun a => ?_
  by_cases ha : a < n
  · rw [List.nil_append, List.getElem?_map, List.getElem?_range ha, List.getElem?_map, rAt_some (by omega)]
    rfl
  · rw [List.getElem?_eq_none (by simp; omega), List.getElem?_eq_none (by simp; omega)]

theorem RowsAt.put {m0 m : Mem} {i j : Nat} {r : Rows'} (h : RowsAt m j r) (hfl : Flo m0 m i) (hj : m0.length ≤ j) (hij : i < j) {a k : Nat} (v : Option Nat) (ha : a < r.length) (hk : k < (rAt r a).length) :
    ∃ m', gSet (.ref (j + a)) (.int (k : Nat)) (oD v) m = .ok () m' ∧ RowsAt m' j (setR r a k v) ∧ Flo m0 m' i := by
  obtain ⟨s1, s2⟩ := h.set (v := v) ha hk
  exact ⟨_, s1, s2, hfl.put (by omega) (by omega) _⟩
theorem rng2_nat {a b : Nat} (ha : a ≤ 900) (hb : b ≤ 900) (m : Mem) : rng2R (.int (a : Nat)) (.int (b : Nat)) m = .ok (srcLP (rngD (a : Nat) (b - a))) m := by
  rw [rng2R_int (m := m) (a : Nat) (b : Nat) (by omega) (by omega) (by omega) (by omega)]
  rw [show ((b : Int) - (a : Int)).toNat = b - a by omega]
theorem RowsAt.new {m : Mem} {n : Nat} {x : List (Option Nat)} : RowsAt (m ++ List.replicate n (Cell.lst (x.map oD))) m.length (List.replicate n x) := ⟨fun a y e => by
  rw [List.getElem?_replicate] at e
  split at e
  · rename_i ha
    cases e
    rw [List.getElem?_append_right (by omega), Nat.add_sub_cancel_left, List.getElem?_replicate, if_pos ha]
  · cases e⟩
theorem Kp.many {m : Mem} (cs : List Cell) : Kp m (m ++ cs) := ⟨by simp, fun j hj => List.getElem?_append_left hj⟩
/-- rows with nothing in them yet -/
structure Raw (w n : Nat) (r : Rows') : Prop where
  len : r.length = n
  wid : ∀ x ∈ r, x.length = w
  rng : ∀ a k b, way r a k b → b < r.length
theorem Raw.new (w n : Nat) : Raw w n (List.replicate n (List.replicate w none)) := by
  refine ⟨by simp, fun x hx => ?_, fun a k b hw => ?_⟩
  · rw [(List.mem_replicate.mp hx).2]; simp
  · obtain ⟨x, e1, e2⟩ := hw
    rw [(List.mem_replicate.mp (List.mem_of_getElem? e1)).2] at e2
    have := (List.mem_replicate.mp (List.mem_of_getElem? e2)).2
    cases this
theorem Raw.set {w n : Nat} {r : Rows'} (h : Raw w n r) {a k b : Nat} (ha : a < n) (hb : b < n) : Raw w n (setR r a k (some b)) :=
  ⟨by rw [setR_len]; exact h.len, setR_wid h.wid (by rw [h.len]; exact ha), setR_rng (by rw [h.len]; exact ha) h.rng (by rw [h.len]; exact hb)⟩
theorem Raw.row {w n : Nat} {r : Rows'} (h : Raw w n r) {a : Nat} (ha : a < n) : (rAt r a).length = w := h.wid _ (rAt_mem (by rw [h.len]; exact ha))
/-- two rows of deeds from the first room to the last one -/
structure Two (one many : Nat) (r : Rows') : Prop where
  f0 : ∀ a, a < one → way r a 0 (if a + 1 = one then many - 1 else a + 1)
  f1 : way r 0 1 one
  f2 : ∀ a, one ≤ a → a + 1 < many → way r a 1 (a + 1)
theorem Two.ok {one many : Nat} {r : Rows'} (t : Two one many r) (raw : Raw 2 many r) (h1 : 1 ≤ one) (h2 : one < many) : OkRows 2 r := by
  have c0 : ∀ b, b < one → Com r b := by
    intro b
    induction b with
    | zero => intro _; exact .zero
    | succ b ih =>
      intro hb
      have := t.f0 b (by omega)
      rw [if_neg (by omega)] at this
      exact .step (ih (by omega)) this
  have c1 : ∀ k, one + k < many → Com r (one + k) := by
    intro k
    induction k with
    | zero => intro _; exact .step .zero t.f1
    | succ k ih => intro hk; exact .step (ih (by omega)) (t.f2 (one + k) (by omega) (by omega))
  refine ⟨by rw [raw.len]; omega, raw.wid, raw.rng, fun b hb => ?_, fun k hk => ?_⟩
  · rw [raw.len] at hb
    by_cases q : b < one
    · exact c0 b q
    · have := c1 (b - one) (by omega)
      rw [show one + (b - one) = b by omega] at this
      exact this
  · have : k = 0 ∨ k = 1 := by omega
    rcases this with rfl | rfl
    · exact ⟨_, _, t.f0 0 (by omega)⟩
    · exact ⟨_, _, t.f1⟩
namespace Y
/-- the last step of a drawing: names, tuples, another order -/
theorem close_then {m m1 : Mem} {i j w n : Nat} {r : Rows'} {P : D → Mem → Prop} (hfl : Flo m m1 i) (hr : RowsAt m1 j r) (hij : i < j) (ok : OkRows w r) (hn : r.length ≤ 900) (hw : w ≤ 26)
    (h : ∀ ns r' m', Nms ns → ns.length = w → OkRows w r' → r'.length = r.length → Flo m m' i → P (chaD ⟨ns, r'⟩) m') :
    Tri (m__law_names [.ref i, .int (w : Nat)] m1) (fun d m2 => ∃ ns : List Str, d = sT ns ∧ Nms ns ∧ ns.length = w ∧ Flo m m2 i ∧ RowsAt m2 j r ∧ Tri (m__law_reordered [.ref i, chaD ⟨ns, r⟩] m2) P) := by
  refine names_then hfl.at hw fun ns m2 hl hns hfl2 => ⟨ns, rfl, hns, hl, hfl.trans hfl2, hr.flo hfl2 hij, ?_⟩
  refine reordered_then (c := ⟨ns, r⟩) hfl2.at ok.pos hn (fun x hx => by rw [ok.wid x hx]; omega) ok.rng fun ord m3 ho hfl3 => ?_
  exact h ns _ m3 hns hl (ok.re ho) (by show (reR ord r).length = _; unfold reR; rw [List.length_map, ho.len]) (hfl.trans (hfl2.trans hfl3))
theorem two_rows_then {m : Mem} {i most : Nat} {P : D → Mem → Prop} (hf : FlowAt m i) (h0 : 3 ≤ most) (h9 : most ≤ 900)
    (h : ∀ c m', Nms c.n → c.n.length = 2 → OkRows 2 c.r → c.r.length ≤ most → Flo m m' i → P (chaD c) m') : Tri (m__law_two_rows [.ref i, .int (most : Nat)] m) P := by
  refine tri_fn rfl ?_
  simp [b__law_two_rows]
  refine pick_then hf (by split <;> omega) (by split <;> omega) fun k1 m1 hk1 hfl => ?_
  simp [b__law_two_rows_s1]
  rw [show (1 : Int) + (k1 : Int) = ((1 + k1 : Nat) : Int) by omega]
  obtain ⟨one, hone⟩ : ∃ one, one = 1 + k1 := ⟨_, rfl⟩
  rw [← hone]
  have ho1 : 1 ≤ one ∧ one + 1 ≤ most := by split at hk1 <;> omega
  refine pick_then hfl.at (by split <;> omega) (by split <;> omega) fun k2 m2 hk2 hfl2 => ?_
  simp only [gAdd_int, tri_ok]
  rw [show (one : Int) + 1 + (k2 : Int) = ((one + 1 + k2 : Nat) : Int) by omega]
  obtain ⟨many, hmany⟩ : ∃ many, many = one + 1 + k2 := ⟨_, rfl⟩
  rw [← hmany]
  have ho2 : one < many ∧ many ≤ most := by split at hk2 <;> omega
  have hfl := hfl.trans hfl2
  simp [b__law_two_rows_s2, -rng1R_int, rng_nat (n := many) (by omega)]
  have hij : i < m2.length := hfl.at.lt
  have hj : m.length ≤ m2.length := hfl.2.1
  have hc := comp_cells (g := gNm 5) (e := mLst true (mCons (mC .non) (mCons (mC .non) mNil))) (η := wipeE [some (.ref i), some (.int (most : Nat)), some (.int (one : Nat)), some (.int (many : Nat)), none, none, none, none] [5]) (m := m2) (ds := rngD 0 many) (c := .lst ((List.replicate 2 (none : Option Nat)).map oD)) (by simp; omega) (fun d hd m' => ⟨_, rfl, by simp [oD, List.replicate]⟩)
  rw [rngD_length] at hc
  refine (tri_eq hc).mpr ?_
  have hr : RowsAt (m2 ++ List.replicate many (Cell.lst ((List.replicate 2 (none : Option Nat)).map oD))) m2.length (List.replicate many (List.replicate 2 none)) := RowsAt.new
  have hfl := hfl.kp (Kp.many (List.replicate many (Cell.lst ((List.replicate 2 (none : Option Nat)).map oD))))
  have raw := Raw.new 2 many
  generalize m2.length = j at hr hij hj
  generalize m2 ++ List.replicate many (Cell.lst ((List.replicate 2 (none : Option Nat)).map oD)) = m3 at hr hfl
  generalize hr0 : List.replicate many (List.replicate 2 (none : Option Nat)) = r0 at hr raw
  simp [b__law_two_rows_s3, -rng1R_int, rng_nat (n := one) (by omega)]
  refine for_inv (fun k η m' => (∃ e5, η = [some (.ref i), some (.int (most : Nat)), some (.int (one : Nat)), some (.int (many : Nat)), some (.lst (refs j many)), e5, none, none]) ∧ ∃ r, Flo m m' i ∧ RowsAt m' j r ∧ Raw 2 many r ∧ ∀ a, a < k → way r a 0 (if a + 1 = one then many - 1 else a + 1)) _ ⟨⟨_, rfl⟩, r0, hfl, hr, raw, fun a ha => by omega⟩ ?_ ?_
  · rintro k d η m' hd ⟨⟨e5, rfl⟩, r, hfl, hr, raw, hF⟩
    rw [rngD_nat, List.getElem?_map] at hd
    have hk : k < one := by
      cases hq : (List.range one)[k]? with
      | none => rw [hq] at hd; cases hd
      | some z => have := (List.getElem?_eq_some_iff.mp hq).1; simpa using this
    rw [List.getElem?_range hk] at hd
    cases hd
    have hkm : k < many := by omega
    have hq : ((k : Int) + 1 = (one : Int)) = (k + 1 = one) := propext (by omega)
    have e1 : gIx (.lst [.int ((k : Int) + 1), .int ((many : Int) - 1)]) (.int (if k + 1 = one then 1 else 0)) m' = .ok (oD (some (if k + 1 = one then many - 1 else k + 1))) m' := by
      by_cases q : k + 1 = one
      · simp [q, oD]; omega
      · simp [q, oD]
    obtain ⟨m4, s1, s2, s3⟩ := hr.put hfl hj hij (a := k) (k := 0) (some (if k + 1 = one then many - 1 else k + 1)) (by rw [raw.len]; exact hkm) (by rw [raw.row hkm]; omega)
    have s1' : gSet (.ref (j + k)) (.int 0) (oD (some (if k + 1 = one then many - 1 else k + 1))) m' = _ := s1
    simp [hq, e1, gIx_refs hkm, s1']
    refine ⟨s3, _, s2, raw.set hkm (by split <;> omega), fun a ha => ?_⟩
    by_cases q : a = k
    · rw [q]
      exact setR_new (by rw [raw.len]; exact hkm) (by rw [raw.row hkm]; omega)
    · exact setR_old (hF a (by omega)) (.inl q)
  · rintro η m' ⟨⟨e5, rfl⟩, r, hfl, hr, raw, hF⟩
    rw [rngD_length] at hF
    simp [b__law_two_rows_s4, b__law_two_rows_s5, -rng2R_int, rng2_nat (a := one) (b := many) (by omega) (by omega)]
    refine for_inv (fun k η m' => ∃ (last : Nat), (∃ e5, η = [some (.ref i), some (.int (most : Nat)), some (.int (one : Nat)), some (.int (many : Nat)), some (.lst (refs j many)), e5, some (.int (last : Nat)), none]) ∧ (k = 0 → last = 0) ∧ (1 ≤ k → last + 1 = one + k) ∧ ∃ r, Flo m m' i ∧ RowsAt m' j r ∧ Raw 2 many r ∧ (∀ a, a < one → way r a 0 (if a + 1 = one then many - 1 else a + 1)) ∧ (1 ≤ k → way r 0 1 one) ∧ ∀ a, one ≤ a → a + 1 < one + k → way r a 1 (a + 1)) _ ⟨0, ⟨_, rfl⟩, fun _ => rfl, fun q => by omega, r, hfl, hr, raw, hF, fun q => by omega, fun a h1 h2 => by omega⟩ ?_ ?_
    · rintro k d η m' hd ⟨last, ⟨e5, rfl⟩, l0, l1, r, hfl, hr, raw, hF, hG, hH⟩
      unfold rngD at hd
      rw [List.getElem?_map] at hd
      have hk : k < many - one := by
        cases hq : (List.range (many - one))[k]? with
        | none => rw [hq] at hd; cases hd
        | some z => have := (List.getElem?_eq_some_iff.mp hq).1; simpa using this
      rw [List.getElem?_range hk] at hd
      cases hd
      have hlm : last < many := by
        by_cases q : k = 0
        · rw [l0 q]; omega
        · have := l1 (by omega); omega
      obtain ⟨m4, s1, s2, s3⟩ := hr.put hfl hj hij (a := last) (k := 1) (some (one + k)) (by rw [raw.len]; exact hlm) (by rw [raw.row hlm]; omega)
      have s1' : gSet (.ref (j + last)) (.int 1) (.int ((one : Int) + (k : Int))) m' = .ok () m4 := s1
      simp [b__law_two_rows_0, gIx_refs hlm, s1', b__law_two_rows_0s1]
      refine ⟨one + k, rfl, by omega, s3, setR r last 1 (some (one + k)), s2, raw.set hlm (by omega), fun a ha => setR_old (hF a ha) (.inr (by decide)), ?_, fun a h1 h2 => ?_⟩
      · by_cases q : k = 0
        · have := l0 q
          subst q this
          exact setR_new (by rw [raw.len]; exact hlm) (by rw [raw.row hlm]; omega)
        · have := l1 (by omega)
          exact setR_old (hG (by omega)) (.inl (by omega))
      · by_cases q : a + 1 = one + k
        · have q1 : k ≠ 0 := by omega
          have q2 : last = a := by have := l1 (by omega); omega
          subst q2
          rw [q]
          exact setR_new (by rw [raw.len]; exact hlm) (by rw [raw.row hlm]; omega)
        · refine setR_old (hH a h1 (by omega)) (.inl ?_)
          by_cases q3 : k = 0
          · omega
          · have := l1 (by omega); omega
    · rintro η m' ⟨last, ⟨e5, rfl⟩, l0, l1, r, hfl, hr, raw, hF, hG, hH⟩
      rw [rngD_length] at l1 hG hH
      have two : Two one many r := ⟨hF, hG (by omega), fun a h1 h2 => hH a h1 (by omega)⟩
      have fin : ∀ r m' , Flo m m' i → RowsAt m' j r → Raw 2 many r → Two one many r → TriS (b__law_two_rows_s7 [some (D.ref i), some (D.int ↑most), some (D.int ↑one), some (D.int ↑many), some (D.lst (refs j many)), e5, some (D.int ↑last), none] m') (fun x m => P D.non m) P := by
        intro r m' hfl hr raw two
        simp [b__law_two_rows_s7, -List.length_map]
        have hok := two.ok raw (by omega) (by omega)
        refine (close_then (n := many) (P := P) hfl hr hij hok (by rw [raw.len]; omega) (by decide) fun ns r' m'' hns hl ok' hlen hfl' => h ⟨ns, r'⟩ m'' hns hl ok' (by show r'.length ≤ _; rw [hlen, raw.len]; omega) hfl').mono fun d m2 ⟨ns, e, hns, hl, hfl2, hr2, hre⟩ => ?_
        rw [e]
        refine (tri_eq (hr2.tuples raw.len (by omega) (by simp [wipeE]))).mpr ?_
        exact hre
      simp [b__law_two_rows_s6]
      refine pick_then hfl.at (by decide) (by decide) fun k3 m3 hk3 hfl3 => ?_
      have hr3 := hr.flo hfl3 hij
      have hfl3 := hfl.trans hfl3
      by_cases q : k3 = 0
      · subst q
        simp
        rw [show (many : Int) - 1 = ((many - 1 : Nat) : Int) by omega, gIx_refs (by omega)]
        simp only [tri_ok]
        refine pick_then hfl3.at (by decide) (by decide) fun k4 m4 hk4 hfl4 => ?_
        have hr4 := hr3.flo hfl4 hij
        have hfl4 := hfl3.trans hfl4
        have hlm : many - 1 < many := by omega
        obtain ⟨m5, s1, s2, s3⟩ := hr4.put hfl4 hj hij (a := many - 1) (k := k4) (some 0) (by rw [raw.len]; exact hlm) (by rw [raw.row hlm]; omega)
        have s1' : gSet (.ref (j + (many - 1))) (.int (k4 : Nat)) (.int 0) m4 = .ok () m5 := s1
        rw [s1']
        simp only [tri_ok]
        refine fin _ m5 s3 s2 (raw.set hlm (by omega)) ⟨fun a ha => setR_old (hF a ha) (.inl (by omega)), setR_old two.f1 (.inl (by omega)), fun a h1 h2 => setR_old (two.f2 a h1 h2) (.inl (by omega))⟩
      · simp [q]
        exact fin r m3 hfl3 hr3 raw two
end Y
end Mir

/-! Mir: any map. -/
namespace Mir
open PySem PySem.Spec PyProof.Rows L2
theorem rng_get {n k : Nat} {d : D} (h : (rngD 0 n)[k]? = some d) : k < n ∧ d = .int (k : Nat) := by
  rw [Y.rngD_nat, List.getElem?_map] at h
  have hk : k < n := by
    cases hq : (List.range n)[k]? with
    | none => rw [hq] at h; cases h
    | some z => have := (List.getElem?_eq_some_iff.mp hq).1; simpa using this
  rw [List.getElem?_range hk] at h
  exact ⟨hk, (Option.some.inj h).symm⟩
theorem rngA_get {a n k : Nat} {d : D} (h : (rngD (a : Nat) n)[k]? = some d) : k < n ∧ d = .int ((a + k : Nat) : Int) := by
  unfold rngD at h
  rw [List.getElem?_map] at h
  have hk : k < n := by
    cases hq : (List.range n)[k]? with
    | none => rw [hq] at h; cases h
    | some z => have := (List.getElem?_eq_some_iff.mp hq).1; simpa using this
  rw [List.getElem?_range hk] at h
  refine ⟨hk, (Option.some.inj h).symm.trans ?_⟩
  show D.int _ = D.int _
  congr 1
theorem Com.mono {r r' : Rows'} (h : ∀ a k b, way r a k b → way r' a k b) {b : Nat} (c : Com r b) : Com r' b := by
  induction c with
  | zero => exact .zero
  | step _ hw ih => exact .step ih (h _ _ _ hw)
theorem extend_ref {m : Mem} {j : Nat} {l ds : List D} (h : m[j]? = some (.lst l)) (hl : l.length + ds.length ≤ 1000000) : gExtend (.ref j) [.lst ds] m = .ok .non (m.set j (.lst (l ++ ds))) := by
  have e1 : lstC m[j]? = some l := by rw [h]; rfl
  have e2 : lstOwn m (.lst ds) = some ds := rfl
  simp only [gExtend, e1, e2]
  rw [if_pos (size_le hl)]
theorem repL_t {k : Nat} {m : Mem} (h : k ≤ 900) : gRepL true (.lst [.non]) (.int (k : Nat)) m = .ok (.ref m.length) (m ++ [.lst ((List.replicate k (none : Option Nat)).map oD)]) := by
  show (if rngB (k : Nat) = true ∧ [D.non].length * ((k : Nat) : Int).toNat ≤ sizeLine then mkL true (List.replicate ((k : Nat) : Int).toNat [D.non]).flatten m else .stk) = _
  rw [if_pos ⟨(rngB_iff _).mpr (by omega), size_le (by simp; omega)⟩, Int.toNat_natCast]
  have : (List.replicate k [D.non]).flatten = (List.replicate k (none : Option Nat)).map oD := by
    rw [List.map_replicate]
    induction k with
    | zero => rfl
    | succ k ih => rw [List.replicate_succ, List.flatten_cons, ih (by omega), List.replicate_succ]; rfl
  rw [this]
  rfl
/-- rows that are drawn, kept in cells beside the flow -/
structure Dr (m m' : Mem) (i j w n : Nat) (r : Rows') : Prop where
  fl : Flo m m' i
  ro : RowsAt m' j r
  raw : Raw w n r
namespace Y
section
variable {m : Mem} {i j w n : Nat} {P : D → Mem → Prop} {N : Env' → Mem → Prop} {e1 e2 : Option D}
abbrev amE (i j w n : Nat) (e1 e2 e6 e7 e8 e9 e10 : Option D) : Env' := [some (.ref i), e1, e2, some (.int (n : Nat)), some (.int (w : Nat)), some (.lst (refs j n)), e6, e7, e8, e9, e10, none]
theorem am_s8 {m' : Mem} {r : Rows'} {e6 e7 e8 e9 e10 : Option D} (hij : i < j) (d : Dr m m' i j w n r) (ok : OkRows w r) (hn : n ≤ 900) (hw : w ≤ 26)
    (h : ∀ c m', Nms c.n → c.n.length = w → OkRows w c.r → c.r.length = n → Flo m m' i → P (chaD c) m') : TriS (b__law_any_map_s8 (amE i j w n e1 e2 e6 e7 e8 e9 e10) m') N P := by
  simp [b__law_any_map_s8, -List.length_map]
  refine (close_then (n := n) (P := P) d.fl d.ro hij ok (by rw [d.raw.len]; omega) hw fun ns r' m'' hns hl ok' hlen hfl' => h ⟨ns, r'⟩ m'' hns hl ok' (by show r'.length = _; rw [hlen, d.raw.len]) hfl').mono fun dd m2 ⟨ns, e, hns, hl, hfl2, hr2, hre⟩ => ?_
  rw [e]
  refine (tri_eq (hr2.tuples d.raw.len (by omega) (by simp [wipeE]))).mpr ?_
  exact hre
theorem col_eq {m' : Mem} {r : Rows'} {k : Nat} {e6 e7 e8 e10 : Option D} (ro : RowsAt m' j r) (raw : Raw w n r) (hk : k < w) (hn : n ≤ 900) :
    compD (gNm 11) mYes (mOp (gIs false) (mOp gIx (mVar 11) (mVar 9)) (mC .non)) (wipeE (amE i j w n e1 e2 e6 e7 e8 (some (.int (k : Nat))) e10) [11]) (refs j n) m' [] = .ok (((List.range n).map fun a => (oAt (rAt r a) k).isNone).map .bl) m' := by
  unfold refs
  rw [comp_mapT (fun a : Nat => D.ref (j + a)) (fun a => D.bl (oAt (rAt r a) k).isNone) (List.range n) [] (fun a ha => by
    have ha : a < n := List.mem_range.mp ha
    have e := ro.get (a := a) (k := k) (by rw [raw.len]; exact ha) (by rw [raw.row ha]; exact hk)
    refine ⟨_, rfl, rfl, ?_⟩
    simp [wipeE, e, oD_non]) (by simp; omega)]
  rw [List.map_map]
  rfl
theorem am_s7 {m' : Mem} {r : Rows'} {e6 e7 e8 e9 e10 : Option D} (hj : m.length ≤ j) (hij : i < j) (d : Dr m m' i j w n r) (com : ∀ b, b < n → Com r b) (hn0 : 0 < n) (hn : n ≤ 900) (hw : w ≤ 26)
    (h : ∀ c m', Nms c.n → c.n.length = w → OkRows w c.r → c.r.length = n → Flo m m' i → P (chaD c) m') : TriS (b__law_any_map_s7 (amE i j w n e1 e2 e6 e7 e8 e9 e10) m') N P := by
  simp [b__law_any_map_s7, -rng1R_int, rng_nat (n := w) (by omega)]
  refine for_inv (fun k η m' => (∃ e9, η = amE i j w n e1 e2 e6 e7 e8 e9 e10) ∧ ∃ r, Dr m m' i j w n r ∧ (∀ b, b < n → Com r b) ∧ ∀ k', k' < k → ∃ a b, way r a k' b) _ ⟨⟨_, rfl⟩, r, d, com, fun k' hk' => by omega⟩ ?_ ?_
  · rintro k dd η m' hd ⟨⟨e9, rfl⟩, r, d, com, hdone⟩
    obtain ⟨hk, rfl⟩ := rng_get hd
    have hcol := col_eq (i := i) (e1 := e1) (e2 := e2) (e6 := e6) (e7 := e7) (e8 := e8) (e10 := e10) d.ro d.raw hk hn
    simp
    refine (tri_eq hcol).mpr ?_
    simp only [bAll_bls, tri_ok, truD_bl]
    have hall : ((List.range n).map fun a => (oAt (rAt r a) k).isNone).all id = (List.range n).all fun a => (oAt (rAt r a) k).isNone := by rw [List.all_map]; rfl
    rw [hall]
    cases hq : (List.range n).all fun a => (oAt (rAt r a) k).isNone with
    | false =>
      simp
      have : ¬ ∀ a ∈ List.range n, (oAt (rAt r a) k).isNone = true := fun z => by
        rw [List.all_eq_true.mpr z] at hq; cases hq
      have hex : ∃ a, a < n ∧ (oAt (rAt r a) k).isNone = false := by
        refine Classical.byContradiction fun z => this fun a ha => ?_
        cases hb : (oAt (rAt r a) k).isNone with
        | true => rfl
        | false => exact absurd ⟨a, List.mem_range.mp ha, hb⟩ z
      obtain ⟨a, ha, ho⟩ := hex
      refine ⟨r, d, com, fun k' hk' => ?_⟩
      by_cases e : k' = k
      · subst e
        cases hb : oAt (rAt r a) k' with
        | none => rw [hb] at ho; cases ho
        | some b => exact ⟨a, b, _, rAt_some (by rw [d.raw.len]; exact ha), by rw [oAt_get (by rw [d.raw.row ha]; exact hk), hb]⟩
      · exact hdone k' (by omega)
    | true =>
      have hnone : ∀ a, a < n → oAt (rAt r a) k = none := fun a ha => by
        have := List.all_eq_true.mp hq a (List.mem_range.mpr ha)
        simpa using this
      simp
      refine pick_then d.fl.at (by omega) (by omega) fun b m2 hb hfl2 => ?_
      have ro2 := d.ro.flo hfl2 hij
      have fl2 := d.fl.trans hfl2
      refine pick_then fl2.at (by omega) (by omega) fun a m3 ha hfl3 => ?_
      have ha : a < n := by omega
      have ro3 := ro2.flo hfl3 hij
      have fl3 := fl2.trans hfl3
      obtain ⟨m4, s1, s2, s3⟩ := ro3.put fl3 hj hij (a := a) (k := k) (some b) (by rw [d.raw.len]; exact ha) (by rw [d.raw.row ha]; exact hk)
      have s1' : gSet (.ref (j + a)) (.int (k : Nat)) (.int (b : Nat)) m3 = .ok () m4 := s1
      simp [gIx_refs ha, s1']
      refine ⟨_, ⟨s3, s2, d.raw.set ha (by omega)⟩, fun x hx => (com x hx).mono fun a' k' b' hw' => setR_keep hw' (hnone a ha), fun k' hk' => ?_⟩
      by_cases e : k' = k
      · subst e
        exact ⟨a, b, setR_new (by rw [d.raw.len]; exact ha) (by rw [d.raw.row ha]; exact hk)⟩
      · obtain ⟨a', b', hw'⟩ := hdone k' (by omega)
        exact ⟨a', b', setR_keep hw' (hnone a ha)⟩
  · rintro η m' ⟨⟨e9, rfl⟩, r, d, com, hdone⟩
    rw [rngD_length] at hdone
    exact am_s8 hij d ⟨by rw [d.raw.len]; exact hn0, d.raw.wid, d.raw.rng, fun b hb => com b (by rw [← d.raw.len]; exact hb), hdone⟩ hn hw h

theorem am_s6 {m' : Mem} {r : Rows'} {t : Nat} {e6 e8 e9 e10 : Option D} (hj : m.length ≤ j) (hij : i < j) (d : Dr m m' i j w n r) (com : ∀ b, b < n → Com r b) (ht0 : 0 < t) (ht : t ≤ 900) (hn0 : 0 < n) (hn : n ≤ 900) (hw : w ≤ 26)
    (h : ∀ c m', Nms c.n → c.n.length = w → OkRows w c.r → c.r.length = n → Flo m m' i → P (chaD c) m') : TriS (b__law_any_map_s6 (amE i j w n e1 e2 e6 (some (.int (t : Nat))) e8 e9 e10) m') N P := by
  simp [b__law_any_map_s6, -rng1R_int, rng_nat (n := n) (by omega)]
  refine for_inv (fun a η m' => (∃ e8 e9, η = amE i j w n e1 e2 e6 (some (.int (t : Nat))) e8 e9 e10) ∧ ∃ r, Dr m m' i j w n r ∧ (∀ b, b < n → Com r b)) _ ⟨⟨_, _, rfl⟩, r, d, com⟩ ?_ ?_
  · rintro a dd η m' hd ⟨⟨e8, e9, rfl⟩, r, d, com⟩
    obtain ⟨ha, rfl⟩ := rng_get hd
    simp [-rng1R_int, rng_nat (n := w) (by omega)]
    refine TriS.toQ ?_
    refine for_inv (fun k η m' => (∃ e9, η = amE i j w n e1 e2 e6 (some (.int (t : Nat))) (some (.int (a : Nat))) e9 e10) ∧ ∃ r, Dr m m' i j w n r ∧ (∀ b, b < n → Com r b)) _ ⟨⟨_, rfl⟩, r, d, com⟩ ?_ ?_
    · rintro k dd η m' hd ⟨⟨e9, rfl⟩, r, d, com⟩
      obtain ⟨hk, rfl⟩ := rng_get hd
      have e3 := d.ro.get (a := a) (k := k) (by rw [d.raw.len]; exact ha) (by rw [d.raw.row ha]; exact hk)
      simp [gIx_refs ha, e3, oD_non]
      cases ho : oAt (rAt r a) k with
      | some b =>
        simp
        exact ⟨r, d, com⟩
      | none =>
        simp
        refine pick_then d.fl.at (by omega) (by omega) fun q m2 hq hfl2 => ?_
        have ro2 := d.ro.flo hfl2 hij
        have fl2 := d.fl.trans hfl2
        by_cases q0 : q = 0
        · subst q0
          simp
          refine pick_then fl2.at (by omega) (by omega) fun b m3 hb hfl3 => ?_
          have ro3 := ro2.flo hfl3 hij
          have fl3 := fl2.trans hfl3
          obtain ⟨m4, s1, s2, s3⟩ := ro3.put fl3 hj hij (a := a) (k := k) (some b) (by rw [d.raw.len]; exact ha) (by rw [d.raw.row ha]; exact hk)
          have s1' : gSet (.ref (j + a)) (.int (k : Nat)) (.int (b : Nat)) m3 = .ok () m4 := s1
          simp [gIx_refs ha, s1']
          exact ⟨_, ⟨s3, s2, d.raw.set ha (by omega)⟩, fun x hx => (com x hx).mono fun a' k' b' hw' => setR_keep hw' ho⟩
        · simp [q0]
          exact ⟨r, ⟨fl2, ro2, d.raw⟩, com⟩
    · rintro η m' ⟨⟨e9, rfl⟩, r, d, com⟩
      exact ⟨⟨_, _, rfl⟩, r, d, com⟩
  · rintro η m' ⟨⟨e8, e9, rfl⟩, r, d, com⟩
    exact am_s7 hj hij d com hn0 hn hw h
/-- the places without a way -/
def freeOf (r : Rows') (w a : Nat) : List (Nat × Nat) := ((List.range w).filter fun k => (oAt (rAt r a) k).isNone).map fun k => (a, k)
def freeL (r : Rows') (w t : Nat) : List (Nat × Nat) := (List.range t).flatMap (freeOf r w)
def pD (p : Nat × Nat) : D := .tup [.int (p.1 : Nat), .int (p.2 : Nat)]
theorem freeL_mem {r : Rows'} {w t : Nat} {p : Nat × Nat} : p ∈ freeL r w t ↔ p.1 < t ∧ p.2 < w ∧ oAt (rAt r p.1) p.2 = none := by
  unfold freeL freeOf
  rw [List.mem_flatMap]
  constructor
  · rintro ⟨a, ha, hp⟩
    obtain ⟨k, hk, rfl⟩ := List.mem_map.mp hp
    rw [List.mem_filter, List.mem_range] at hk
    exact ⟨List.mem_range.mp ha, hk.1, by simpa using hk.2⟩
  · rintro ⟨h1, h2, h3⟩
    refine ⟨p.1, List.mem_range.mpr h1, List.mem_map.mpr ⟨p.2, ?_, rfl⟩⟩
    rw [List.mem_filter, List.mem_range]
    exact ⟨h2, by rw [h3]; rfl⟩
theorem freeL_len (r : Rows') (w : Nat) : ∀ t, (freeL r w t).length ≤ t * w
  | 0 => by simp [freeL]
  | t + 1 => by
    have ih := freeL_len r w t
    unfold freeL at ih ⊢
    rw [List.range_succ, List.flatMap_append, List.length_append]
    have : ([t].flatMap (freeOf r w)).length ≤ w := by
      simp [freeOf]
      have := List.length_filter_le (fun k => (oAt (rAt r t) k).isNone) (List.range w)
      simpa using this
    rw [Nat.add_mul]
    omega
theorem freeL_succ (r : Rows') (w t : Nat) : freeL r w (t + 1) = freeL r w t ++ freeOf r w t := by
  unfold freeL
  rw [List.range_succ, List.flatMap_append]
  simp

theorem RowsAt.lt {m : Mem} {j : Nat} {r : Rows'} (h : RowsAt m j r) {a : Nat} (ha : a < r.length) : j + a < m.length := (List.getElem?_eq_some_iff.mp (h.at' a _ (rAt_some ha))).1
theorem am_0 {m' : Mem} {r : Rows'} {t : Nat} {e7 e8 e9 e10 : Option D} {N B C : Env' → Mem → Prop} (hj : m.length ≤ j) (hij : i < j) (d : Dr m m' i j w n r) (ht0 : 0 < t) (htn : t < n) (hn : n ≤ 900) (hw0 : 0 < w) (hw : w ≤ 26) (hfree : ∀ k, oAt (rAt r (t - 1)) k = none)
    (h : ∀ a k m2 e8 e9 e10, a < t → k < w → oAt (rAt r a) k = none → Dr m m2 i j w n (setR r a k (some t)) → N (amE i j w n e1 e2 (some (.int (t : Nat))) e7 e8 e9 e10) m2) :
    TriQ (b__law_any_map_0 (amE i j w n e1 e2 (some (.int (t : Nat))) e7 e8 e9 e10) m') N B C P := by
  simp [b__law_any_map_0]
  have hlt : ∀ a, a < n → j + a < m'.length := fun a ha => RowsAt.lt d.ro (by rw [d.raw.len]; exact ha)
  have hjf := hlt 0 (by omega)
  have hc1 : (m' ++ [Cell.lst []])[m'.length]? = some (.lst ((freeL r w 0).map pD)) := by simp [freeL]
  have fl1 := d.fl.push (.lst [])
  have ro1 := d.ro.kp ((Kp.refl m').push (.lst []))
  generalize hjq : m'.length = jf at hlt hjf hc1
  generalize m' ++ [Cell.lst []] = m1 at hc1 fl1 ro1
  simp [b__law_any_map_0s1, -rng1R_int, rng_nat (n := t) (by omega)]
  refine TriS.toQ ?_
  refine for_inv (fun a η m1 => (∃ e8, η = amE i j w n e1 e2 (some (.int (t : Nat))) e7 e8 e9 (some (.ref jf))) ∧ Flo m m1 i ∧ RowsAt m1 j r ∧ m1[jf]? = some (.lst ((freeL r w a).map pD))) _ ⟨⟨_, rfl⟩, fl1, ro1, hc1⟩ ?_ ?_
  · rintro a dd η m1 hd ⟨⟨e8, rfl⟩, fl1, ro1, hc1⟩
    obtain ⟨ha, rfl⟩ := rng_get hd
    have han : a < n := by omega
    simp [isTy_ref hc1, -rng1R_int, rng_nat (n := w) (by omega)]
    have hfil := comp_filterT (g := gNm 9) (t := mTest (mOp (gIs false) (mOp gIx (mOp gIx (mVar 5) (mVar 8)) (mVar 9)) (mC .non))) (e := mTup (mCons (mVar 8) (mCons (mVar 9) mNil)))
      (η := wipeE (amE i j w n e1 e2 (some (.int (t : Nat))) e7 (some (.int (a : Nat))) e9 (some (.ref jf))) [9]) (m := m1) (fun k : Nat => D.int (k : Nat)) (fun k : Nat => pD (a, k)) (fun k => (oAt (rAt r a) k).isNone) (List.range w) [] (fun k hk => by
        have hk : k < w := List.mem_range.mp hk
        have e3 := ro1.get (a := a) (k := k) (by rw [d.raw.len]; exact han) (by rw [d.raw.row han]; exact hk)
        refine ⟨_, rfl, ?_, fun _ => ?_⟩
        · simp [wipeE, gIx_refs han, e3, oD_non]
        · simp [wipeE, pD]) (by simp; omega)
    rw [← rngD_nat] at hfil
    refine (tri_eq hfil).mpr ?_
    have e4 : ((List.range w).filter fun k => (oAt (rAt r a) k).isNone).map (fun k : Nat => pD (a, k)) = (freeOf r w a).map pD := by
      unfold freeOf; rw [List.map_map]; rfl
    have hlen := freeL_len r w (a + 1)
    rw [freeL_succ, List.length_append] at hlen
    have hb : (a + 1) * w ≤ 900 * 26 := Nat.mul_le_mul (by omega) hw
    simp only [List.nil_append, e4]
    rw [extend_ref hc1 (by rw [List.length_map, List.length_map]; omega)]
    simp
    refine ⟨fl1.put (by omega) (by omega) _, ⟨fun a' x e => ?_⟩, ?_⟩
    · have := hlt a' (by rw [← d.raw.len]; exact (List.getElem?_eq_some_iff.mp e).1)
      rw [List.getElem?_set_ne (by omega)]
      exact ro1.at' a' x e
    · rw [List.getElem?_set_self (List.getElem?_eq_some_iff.mp hc1).1, freeL_succ, List.map_append]
  · rintro η m1 ⟨⟨e8, rfl⟩, fl1, ro1, hc1⟩
    rw [rngD_length] at hc1
    have hlen := freeL_len r w t
    have hb : t * w ≤ 900 * 26 := Nat.mul_le_mul (by omega) hw
    have hmem : (t - 1, 0) ∈ freeL r w t := freeL_mem.mpr ⟨by show t - 1 < t; omega, hw0, hfree 0⟩
    have hpos : 0 < (freeL r w t).length := List.length_pos_of_mem hmem
    simp [b__law_any_map_0s2, len_ref hc1]
    refine pick_then fl1.at (by omega) (by omega) fun q m2 hq hfl2 => ?_
    have hql : q < (freeL r w t).length := by omega
    have hc2 := hfl2.get (by omega) hc1
    have hpm : (freeL r w t)[q]? = some (freeL r w t)[q] := List.getElem?_eq_getElem hql
    have hp := freeL_mem.mp (List.getElem_mem hql)
    generalize (freeL r w t)[q] = p at hpm hp
    have e1 : gIx (.ref jf) (.int (q : Nat)) m2 = .ok (pD p) m2 := gIx_ref hc2 (atI_nat (by rw [List.getElem?_map, hpm]; rfl))
    have hpn : p.1 < n := by omega
    obtain ⟨m3, s1, s2, s3⟩ := RowsAt.put (ro1.flo hfl2 hij) (fl1.trans hfl2) hj hij (a := p.1) (k := p.2) (some t) (by rw [d.raw.len]; exact hpn) (by rw [d.raw.row hpn]; exact hp.2.1)
    have s1' : gSet (.ref (j + p.1)) (.int (p.2 : Nat)) (.int (t : Nat)) m2 = .ok () m3 := s1
    simp [e1, pD, b__law_any_map_0s3, gIx_refs hpn, s1']
    exact h p.1 p.2 m3 _ _ _ hp.1 hp.2.1 hp.2.2 ⟨s3, s2, d.raw.set hpn htn⟩
theorem am_s4 {m' : Mem} {r : Rows'} {e6 e8 e9 e10 : Option D} (hj : m.length ≤ j) (hij : i < j) (d : Dr m m' i j w n r) (hemp : ∀ a k, oAt (rAt r a) k = none) (hn0 : 0 < n) (hn : n ≤ 900) (hw0 : 1 < n → 0 < w) (hw : w ≤ 26)
    (h : ∀ c m', Nms c.n → c.n.length = w → OkRows w c.r → c.r.length = n → Flo m m' i → P (chaD c) m') : TriS (b__law_any_map_s4 (amE i j w n e1 e2 e6 none e8 e9 e10) m') N P := by
  have e1' : (1 : Int) = ((1 : Nat) : Int) := rfl
  simp [b__law_any_map_s4]
  rw [e1', rng2_nat (a := 1) (b := n) (by omega) (by omega)]
  simp
  refine for_inv (fun k η m' => (∃ e6 e8 e9 e10, η = amE i j w n e1 e2 e6 none e8 e9 e10) ∧ ∃ r, Dr m m' i j w n r ∧ (∀ b, b < 1 + k → Com r b) ∧ ∀ a, k ≤ a → ∀ k', oAt (rAt r a) k' = none) _ ⟨⟨_, _, _, _, rfl⟩, r, d, fun b hb => by
      have : b = 0 := by omega
      rw [this]; exact .zero, fun a _ k' => hemp a k'⟩ ?_ ?_
  · rintro k dd η m' hd ⟨⟨e6, e8, e9, e10, rfl⟩, r, d, com, hemp⟩
    obtain ⟨hk, rfl⟩ := rngA_get (a := 1) hd
    simp
    refine am_0 (t := 1 + k) hj hij d (by omega) (by omega) hn (hw0 (by omega)) hw (fun k' => by rw [Nat.add_sub_cancel_left]; exact hemp k (Nat.le_refl _) k') fun a k2 m2 e8 e9 e10 ha hk2 ho d2 => ?_
    have han : a < n := by omega
    refine ⟨⟨_, _, _, _, rfl⟩, _, d2, fun b hb => ?_, fun a' ha' k' => ?_⟩
    · by_cases q : b < 1 + k
      · exact (com b q).mono fun a' k' b' hw' => setR_keep hw' ho
      · have : b = 1 + k := by omega
        rw [this]
        exact .step ((com a ha).mono fun a' k' b' hw' => setR_keep hw' ho) (setR_new (by rw [d.raw.len]; exact han) (by rw [d.raw.row han]; exact hk2))
    · rw [setR_at (by rw [d.raw.len]; exact han) (by rw [d.raw.row han]; exact hk2), if_neg (by omega)]
      exact hemp a' (by omega) k'
  · rintro η m' ⟨⟨e6, e8, e9, e10, rfl⟩, r, d, com, hemp⟩
    rw [rngD_length] at com
    simp [b__law_any_map_s5]
    refine pick_then d.fl.at (by decide) (by decide) fun t m2 ht hfl2 => ?_
    simp
    rw [show (2 : Int) + (t : Int) = ((2 + t : Nat) : Int) by omega]
    exact am_s6 (t := 2 + t) hj hij ⟨d.fl.trans hfl2, d.ro.flo hfl2 hij, d.raw⟩ (fun b hb => com b (by omega)) (by omega) (by omega) hn0 hn hw h

theorem any_map_then {most deeds : Nat} (hf : FlowAt m i) (h0 : 1 ≤ most) (h9 : most ≤ 900) (hd1 : 1 ≤ deeds) (hd : deeds ≤ 25)
    (h : ∀ c m', Nms c.n → c.n.length ≤ deeds → OkRows c.n.length c.r → c.r.length ≤ most → Flo m m' i → P (chaD c) m') : Tri (m__law_any_map [.ref i, .int (most : Nat), .int (deeds : Nat)] m) P := by
  refine tri_fn rfl ?_
  simp [b__law_any_map]
  refine pick_then hf (by omega) (by omega) fun k1 m1 hk1 hfl => ?_
  simp [b__law_any_map_s1]
  rw [show (1 : Int) + (k1 : Int) = ((1 + k1 : Nat) : Int) by omega]
  refine pick_then hfl.at (by omega) (by omega) fun k2 m2 hk2 hfl2 => ?_
  obtain ⟨n, hn⟩ : ∃ n, n = 1 + k1 := ⟨_, rfl⟩
  rw [← hn]
  have hfl := hfl.trans hfl2
  have s3 : ∀ w : Nat, w ≤ deeds → (1 < n → 0 < w) → TriS (b__law_any_map_s3 [some (.ref i), some (.int (most : Nat)), some (.int (deeds : Nat)), some (.int (n : Nat)), some (.int (w : Nat)), none, none, none, none, none, none, none] m2) (fun _ m => P .non m) P := by
    intro w hwd hw1
    simp [b__law_any_map_s3, -rng1R_int, rng_nat (n := n) (by omega)]
    have hij : i < m2.length := hfl.at.lt
    have hj : m.length ≤ m2.length := hfl.2.1
    have hc := comp_cells (g := gNm 8) (e := mOp (gRepL true) (mLst false (mCons (mC .non) mNil)) (mVar 4)) (η := wipeE [some (.ref i), some (.int (most : Nat)), some (.int (deeds : Nat)), some (.int (n : Nat)), some (.int (w : Nat)), none, none, none, none, none, none, none] [8]) (m := m2) (ds := rngD 0 n) (c := .lst ((List.replicate w (none : Option Nat)).map oD)) (by simp; omega) (fun d hd m' => ⟨_, rfl, by simp [wipeE, repL_t (k := w) (by omega)]⟩)
    rw [rngD_length] at hc
    refine (tri_eq hc).mpr ?_
    have hemp : ∀ a k, oAt (rAt (List.replicate n (List.replicate w (none : Option Nat))) a) k = none := fun a k => by
      unfold rAt oAt
      rw [List.getD_eq_getElem?_getD, List.getD_eq_getElem?_getD, List.getElem?_replicate]
      split
      · rw [Option.getD_some, List.getElem?_replicate]
        split <;> rfl
      · rfl
    have hfin := am_s4 (N := fun _ m => P .non m) (P := P) (e1 := some (.int (most : Nat))) (e2 := some (.int (deeds : Nat))) (e6 := none) (e8 := none) (e9 := none) (e10 := none) hj hij ⟨hfl.kp (Kp.many (List.replicate n (Cell.lst ((List.replicate w (none : Option Nat)).map oD)))), RowsAt.new, Raw.new w n⟩ hemp (by omega) (by omega) hw1 (by omega) (fun c m' h1 h2 h3 h4 h5 => h c m' h1 (by omega) (by rw [h2]; exact h3) (by omega) h5)
    exact hfin
  simp [b__law_any_map_s2]
  by_cases hq : 1 < n
  · have hq' : (1 : Int) < (n : Int) := by omega
    simp [hq, hq']
    by_cases q2 : 1 < k2
    · have q2' : (1 : Int) < (k2 : Int) := by omega
      simp [q2, q2']
      exact s3 k2 (by omega) (fun _ => by omega)
    · have q2' : ¬ (1 : Int) < (k2 : Int) := by omega
      simp [q2, q2']
      exact s3 1 (by omega) (fun _ => by omega)
  · have hq' : ¬ (1 : Int) < (n : Int) := by omega
    simp [hq, hq']
    exact s3 k2 (by omega) (fun z => absurd z hq)

theorem map_then {most deeds : Nat} (hf : FlowAt m i) (h0 : 3 ≤ most) (h9 : most ≤ 900) (hd1 : 2 ≤ deeds) (hd : deeds ≤ 5)
    (h : ∀ c m', OkCha c → c.n.length ≤ deeds → c.r.length ≤ most → Flo m m' i → P (chaD c) m') : Tri (m__law_map [.ref i, .int (most : Nat), .int (deeds : Nat)] m) P := by
  refine tri_fn rfl ?_
  simp [b__law_map]
  refine pick_then hf (by decide) (by decide) fun f m1 hfm hfl => ?_
  simp [b__law_map_s1]
  refine for_inv (fun _ η m' => (∃ e4 e5, η = [some (.ref i), some (.int (most : Nat)), some (.int (deeds : Nat)), some (.int (f : Nat)), e4, e5]) ∧ Flo m m' i) _ ⟨⟨_, _, rfl⟩, hfl⟩ ?_ ?_
  · rintro k dd η m' hdd ⟨⟨e4, e5, rfl⟩, hfl⟩
    simp [b__law_map_1]
    refine any_yard_then hfl.at (by omega) (by omega) fun y m2 oky hy1 hy2 hy3 hy4 hfl2 => ?_
    have hfl2 := hfl.trans hfl2
    refine map_of_then oky.fit (by have := oky.fewh; omega) (by have := oky.few; omega) h9 (fun sts rows m3 wk hrl hwid hmo hkp => ?_) (fun m3 hkp => ?_)
    · have hfl3 := hfl2.kp hkp
      have okc := selC_ok oky.nm wk hrl hwid
      have hcn : (selC y.d rows).n.length ≤ deeds := by
        have : (doneL y.d.length rows).length ≤ (List.range y.d.length).length := List.length_filter_le _ _
        rw [List.length_range] at this
        have e : (selC y.d rows).n.length = (doneL y.d.length rows).length := by unfold selC; simp
        omega
      have hcr : (selC y.d rows).r.length ≤ most := by
        have e : (selC y.d rows).r.length = rows.length := by unfold selC; simp
        omega
      generalize selC y.d rows = c at okc hcn hcr
      have elen : gIx (chaD c) (.int 1) m3 = .ok (.tup (c.r.map rowD)) m3 := by unfold chaD; simp
      have enon : isNon (chaD c) = false := rfl
      simp [b__law_map_1s1, enon, elen]
      by_cases hq : 0 < f ∧ 1 < c.r.length
      · rw [if_pos hq.1, if_pos (by have := hq.2; omega)]
        simp [b__law_map_0]
        refine reordered_then hfl3.at okc.rows.pos (by omega) (fun x hx => by rw [okc.rows.wid x hx]; omega) okc.rows.rng fun ord m4 ho hfl4 => ?_
        have ok4 : OkRows c.n.length (reR ord c.r) := okc.rows.re ho
        have rl4 : (reR ord c.r).length = c.r.length := by unfold reR; rw [List.length_map, ho.len]
        have hfl4 := hfl3.trans hfl4
        generalize reR ord c.r = r4 at ok4 rl4
        simp [b__law_map_0s1]
        refine marred_then (c := ⟨c.n, r4⟩) hfl4.at ok4 (by show c.n.length ≤ _; omega) (by show r4.length ≤ _; omega) fun r5 m5 ok5 rl5 hfl5 => ?_
        have rl5 : r5.length = r4.length := rl5
        have hfl5 := hfl4.trans hfl5
        by_cases hf3 : f = 3
        · simp [hf3]
          exact h ⟨c.n, r5⟩ m5 ⟨okc.nms, ok5⟩ hcn (by show r5.length ≤ _; omega) hfl5
        · have hf3' : ¬ ((f : Int) = 3) := by omega
          simp [hf3, hf3']
          exact h ⟨c.n, r4⟩ m5 ⟨okc.nms, ok4⟩ hcn (by show r4.length ≤ _; omega) hfl5
      · by_cases q1 : 0 < f
        · have q2 : ¬ 1 < c.r.length := fun z => hq ⟨q1, z⟩
          rw [if_pos q1, if_neg (by omega)]
          exact hfl3
        · rw [if_neg q1]
          exact hfl3
    · simp [b__law_map_1s1, isNon]
      exact hfl2.kp hkp
  · rintro η m' ⟨⟨e4, e5, rfl⟩, hfl⟩
    simp [b__law_map_s2]
    refine pick_then hfl.at (by decide) (by decide) fun q m2 hq hfl2 => ?_
    have hfl2 := hfl.trans hfl2
    by_cases q0 : q = 0
    · subst q0
      simp
      refine two_rows_then hfl2.at h0 h9 fun c m3 h1 h2 h3 h4 h5 => ?_
      exact h c m3 ⟨h1, by rw [h2]; exact h3⟩ (by omega) h4 (hfl2.trans h5)
    · simp [q0, b__law_map_s3]
      refine any_map_then hfl2.at (by omega) h9 (by omega) (by omega) fun c m3 h1 h2 h3 h4 h5 => ?_
      exact h c m3 ⟨h1, h3⟩ h2 h4 (hfl2.trans h5)
end
end Y
end Mir

/-! Mir: the ways of a map, levels. -/
namespace Mir
open PySem PySem.Spec PyProof.Rows L2
theorem srcOf_ref {m : Mem} {q : Nat} {ds : List D} (h : m[q]? = some (.lst ds)) : srcOf m (.ref q) = some (srcR q, ds.length) := by
  show (lstC m[q]?).map _ = _
  rw [h]
  rfl
/-! ### all ways of a map -/
def wayOf (a : Nat) (x : List (Option Nat)) : List (Nat × Nat × Nat) := x.zipIdx.filterMap fun p => p.1.map fun b => (a, p.2, b)
def wayL (r : Rows') : List (Nat × Nat × Nat) := r.zipIdx.flatMap fun p => wayOf p.2 p.1
def wD (p : Nat × Nat × Nat) : D := .tup [.int (p.1 : Nat), .int (p.2.1 : Nat), .int (p.2.2 : Nat)]
theorem wayL_mem {r : Rows'} {a k b : Nat} : (a, k, b) ∈ wayL r ↔ way r a k b := by
  unfold wayL wayOf way
  simp only [List.mem_flatMap, List.mem_filterMap]
  constructor
  · rintro ⟨⟨x, a'⟩, hx, ⟨⟨o, k'⟩, ho, e⟩⟩
    have h1 := List.mem_zipIdx_iff_getElem?.mp hx
    have h2 := List.mem_zipIdx_iff_getElem?.mp ho
    cases o with
    | none => cases e
    | some b' =>
      have : (a', k', b') = (a, k, b) := by simpa using e
      cases this
      exact ⟨x, h1, h2⟩
  · rintro ⟨x, e1, e2⟩
    exact ⟨(x, a), List.mem_zipIdx_iff_getElem?.mpr e1, (some b, k), List.mem_zipIdx_iff_getElem?.mpr e2, rfl⟩

theorem wayL_take {r : Rows'} {k : Nat} {x : List (Option Nat)} (h : r[k]? = some x) : wayL (r.take (k + 1)) = wayL (r.take k) ++ wayOf k x := by
  have hk := (List.getElem?_eq_some_iff.mp h).1
  unfold wayL
  rw [List.take_add_one, h, List.zipIdx_append, List.flatMap_append]
  simp [List.length_take, Nat.min_eq_left (Nat.le_of_lt hk)]
theorem wayL_len {r : Rows'} {w : Nat} (hw : ∀ x ∈ r, x.length = w) : ∀ k, (wayL (r.take k)).length ≤ k * w
  | 0 => by simp [wayL]
  | k + 1 => by
    have ih := wayL_len hw k
    cases h : r[k]? with
    | none =>
      have hl : r.length ≤ k := List.getElem?_eq_none_iff.mp h
      rw [List.take_of_length_le (by omega)]
      rw [List.take_of_length_le hl] at ih
      rw [Nat.add_mul]; omega
    | some x =>
      rw [wayL_take h, List.length_append]
      have h1 : (wayOf k x).length ≤ x.length := by
        unfold wayOf
        have := List.length_filterMap_le (fun p : Option Nat × Nat => p.1.map fun b => (k, p.2, b)) x.zipIdx
        simpa using this
      rw [hw x (List.mem_of_getElem? h)] at h1
      rw [Nat.add_mul]; omega
theorem wayOf_filter (a : Nat) : ∀ (l : List (Option Nat × Nat)), (l.filter fun p => p.1.isSome).map (fun p => D.tup [.int (a : Nat), .int ((0 : Int) + (p.2 : Nat)), oD p.1]) = (l.filterMap fun p => p.1.map fun b => (a, p.2, b)).map wD
  | [] => rfl
  | (none, k) :: l => by
    have ih := wayOf_filter a l
    simp only [List.filter_cons, Option.isSome_none, Bool.false_eq_true, if_false, List.filterMap_cons, Option.map_none]
    exact ih
  | (some b, k) :: l => by
    have ih := wayOf_filter a l
    simp only [List.filter_cons, Option.isSome_some, if_true, List.filterMap_cons, Option.map_some, List.map_cons]
    rw [ih]
    simp [wD, oD]
namespace Y
theorem ways_then {m : Mem} {c : Cha} {P : D → Mem → Prop} (hw : ∀ x ∈ c.r, x.length = c.n.length) (hn : c.r.length ≤ 900) (hd : c.n.length ≤ 900)
    (h : ∀ m' q, Kp m m' → m.length ≤ q → m'[q]? = some (.lst ((wayL c.r).map wD)) → P (.ref q) m') : Tri (m__law_ways [chaD c] m) P := by
  refine tri_fn rfl ?_
  simp [b__law_ways, b__law_ways_s1, chaD, -List.length_map]
  have hc1 : (m ++ [Cell.lst []])[m.length]? = some (.lst ((wayL (c.r.take 0)).map wD)) := by simp [wayL]
  have hk1 : Kp m (m ++ [Cell.lst []]) := (Kp.refl m).push _
  generalize m ++ [Cell.lst []] = m1 at hc1 hk1
  rw [enumD_map]
  refine for_inv (fun k η m' => (∃ e2 e3, η = [some (.tup [sT c.n, .tup (c.r.map rowD)]), some (.ref m.length), e2, e3, none, none]) ∧ Kp m m' ∧ m'[m.length]? = some (.lst ((wayL (c.r.take k)).map wD))) _ ⟨⟨_, _, rfl⟩, hk1, hc1⟩ ?_ ?_
  · rintro k d η m' hd' ⟨⟨e2, e3, rfl⟩, hkp, hc⟩
    rw [List.getElem?_map] at hd'
    cases hz : c.r.zipIdx[k]? with
    | none => rw [hz] at hd'; cases hd'
    | some p =>
    rw [hz] at hd'
    cases hd'
    rw [List.getElem?_zipIdx] at hz
    cases hx : c.r[k]? with
    | none => rw [hx] at hz; cases hz
    | some x =>
    rw [hx] at hz
    cases hz
    have hxl := hw x (List.mem_of_getElem? hx)
    have hkl := (List.getElem?_eq_some_iff.mp hx).1
    simp [isTy_ref hc]
    simp only [rowD]
    simp [-List.length_map]
    rw [enumD_map]
    have hfil := comp_filterT (g := gTp 2 (gsCons (gNm 4) (gsCons (gNm 5) gsNil))) (t := mTest (mOp (gIs true) (mVar 5) (mC .non))) (e := mTup (mCons (mVar 2) (mCons (mVar 4) (mCons (mVar 5) mNil))))
      (η := [some (.tup [sT c.n, .tup (c.r.map rowD)]), some (.ref m.length), some (.int (k : Nat)), some (.tup (x.map oD)), none, none]) (m := m') (fun p : Option Nat × Nat => D.tup [.int ((0 : Int) + (p.2 : Nat)), oD p.1]) (fun p => D.tup [.int (k : Nat), .int ((0 : Int) + (p.2 : Nat)), oD p.1]) (fun p => p.1.isSome) x.zipIdx [] (fun p _ => by
        refine ⟨_, by simp; rfl, ?_, fun _ => ?_⟩
        · simp [oD_non]
        · simp) (by simp; omega)
    rw [wayOf_filter] at hfil
    have e4 : (x.zipIdx.filterMap fun p => p.1.map fun b => (k, p.2, b)) = wayOf k x := rfl
    rw [e4] at hfil
    have hlen := wayL_len hw (k + 1)
    rw [wayL_take hx, List.length_append] at hlen
    have hb : (k + 1) * c.n.length ≤ 900 * 900 := Nat.mul_le_mul (by omega) hd
    refine (tri_eq hfil).mpr ?_
    rw [List.nil_append, extend_ref hc (by rw [List.length_map, List.length_map]; omega)]
    refine ⟨hkp.put (Nat.le_refl _) _, ?_⟩
    rw [List.getElem?_set_self (List.getElem?_eq_some_iff.mp hc).1, wayL_take hx, List.map_append]
  · rintro η m' ⟨⟨e2, e3, rfl⟩, hkp, hc⟩
    simp [b__law_ways_s2]
    refine h m' _ hkp (Nat.le_refl _) ?_
    rw [List.length_map, List.length_zipIdx, List.take_length] at hc
    exact hc
end Y
end Mir

/-! Mir: levels. -/
namespace Mir
open PySem PySem.Spec PyProof.Rows L2
def fAt (f : List (Option Int)) (a : Nat) : Option Int := f.getD a none
theorem fAt_set {f : List (Option Int)} {a b : Nat} {v : Option Int} (h : b < f.length) : fAt (f.set b v) a = if a = b then v else fAt f a := by
  unfold fAt
  rw [List.getD_eq_getElem?_getD, List.getD_eq_getElem?_getD]
  by_cases e : a = b
  · subst e
    rw [if_pos rfl, List.getElem?_set_self h]
    rfl
  · rw [if_neg e, List.getElem?_set_ne (fun q => e q.symm)]
structure IsLev (r : Rows') (e L : Nat → Int) : Prop where
  z : L 0 = 0
  w : ∀ a k b, way r a k b → L b = L a + e k
theorem IsLev.uniq {r : Rows'} {e L L' : Nat → Int} (h : IsLev r e L) (h' : IsLev r e L') {b : Nat} (c : Com r b) : L b = L' b := by
  induction c with
  | zero => rw [h.z, h'.z]
  | step _ hw ih => rw [h.w _ _ _ hw, h'.w _ _ _ hw, ih]
/-- levels found so far -/
structure Fnd (r : Rows') (e : Nat → Int) (f : List (Option Int)) : Prop where
  len : f.length = r.length
  z : fAt f 0 = some 0
  ok : ∀ L, IsLev r e L → ∀ a v, fAt f a = some v → v = L a
theorem Fnd.set {r : Rows'} {e : Nat → Int} {f : List (Option Int)} (h : Fnd r e f) {a k b : Nat} {v : Int} (hw : way r a k b) (hb : b < r.length) (hv : fAt f a = some v) (hn : fAt f b = none) : Fnd r e (f.set b (some (v + e k))) := by
  have hbl : b < f.length := by rw [h.len]; exact hb
  refine ⟨by rw [List.length_set]; exact h.len, ?_, fun L hL x y hy => ?_⟩
  · rw [fAt_set hbl, if_neg (fun q => by rw [← q, h.z] at hn; cases hn)]
    exact h.z
  · rw [fAt_set hbl] at hy
    by_cases q : x = b
    · rw [if_pos q] at hy
      cases hy
      rw [q, hL.w a k b hw, h.ok L hL a v hv]
    · rw [if_neg q] at hy
      exact h.ok L hL x y hy
/-- a place that is next: come to from what is found, not found yet -/
theorem next_of {r : Rows'} {p : Nat → Prop} (h0 : p 0) {b : Nat} (c : Com r b) (hb : ¬ p b) : ∃ a k b', way r a k b' ∧ p a ∧ ¬ p b' := by
  induction c with
  | zero => exact absurd h0 hb
  | @step a k b _ hw ih =>
    by_cases ha : p a
    · exact ⟨a, k, b, hw, ha, hb⟩
    · exact ih ha
/-- as many as rounds, or all -/
def Many (n t : Nat) (f : List (Option Int)) : Prop := (∀ b, b < n → fAt f b ≠ none) ∨ ∃ S : List Nat, S.Nodup ∧ (∀ a ∈ S, a < n ∧ fAt f a ≠ none) ∧ t + 1 ≤ S.length
theorem Many.step {r : Rows'} {n t : Nat} {f f' : List (Option Int)} (h : Many n t f) (hn : r.length = n) (rng : ∀ a k b, way r a k b → b < r.length) (com : ∀ b, b < n → Com r b) (z : fAt f 0 ≠ none) (up : ∀ a, fAt f a ≠ none → fAt f' a ≠ none) (go : ∀ a k b, way r a k b → fAt f a ≠ none → fAt f' b ≠ none) : Many n (t + 1) f' := by
  by_cases all : ∀ b, b < n → fAt f b ≠ none
  · exact .inl fun b hb => up b (all b hb)
  · rcases h with h | ⟨S, h1, h2, h3⟩
    · exact absurd h all
    · have hex : ∃ b, b < n ∧ ¬ fAt f b ≠ none := by
        refine Classical.byContradiction fun q => all fun b hb => ?_
        exact Classical.byContradiction fun q2 => q ⟨b, hb, q2⟩
      obtain ⟨b, hb, hnb⟩ := hex
      obtain ⟨a, k, b', hw, ha, hb'⟩ := next_of (p := fun a => fAt f a ≠ none) z (com b hb) hnb
      refine .inr ⟨b' :: S, List.nodup_cons.mpr ⟨fun hm => hb' (h2 b' hm).2, h1⟩, fun x hx => ?_, by simp; omega⟩
      rcases List.mem_cons.mp hx with e | hx
      · rw [e]; exact ⟨by rw [← hn]; exact rng _ _ _ hw, go _ _ _ hw ha⟩
      · exact ⟨(h2 x hx).1, up x (h2 x hx).2⟩
theorem Many.all {n t : Nat} {f : List (Option Int)} (h : Many n t f) (ht : n ≤ t) : ∀ b, b < n → fAt f b ≠ none := by
  rcases h with h | ⟨S, h1, h2, h3⟩
  · exact h
  · have := nodup_len n S h1 fun a ha => (h2 a ha).1
    omega

theorem way_wid {w : Nat} {r : Rows'} (h : ∀ x ∈ r, x.length = w) {a k b : Nat} (hw : way r a k b) : a < r.length ∧ k < w := by
  obtain ⟨x, e1, e2⟩ := hw
  refine ⟨(List.getElem?_eq_some_iff.mp e1).1, ?_⟩
  rw [← h x (List.mem_of_getElem? e1)]
  exact (List.getElem?_eq_some_iff.mp e2).1
namespace Y
end Y
end Mir

/-! Mir: the program's levels. -/
namespace Mir
open PySem PySem.Spec PyProof.Rows L2
/-- a way that is told by what is found -/
def Told (r : Rows') (e : Nat → Int) (f : List (Option Int)) (a k b : Nat) : Prop := ∃ v, fAt f a = some v ∧ fAt f b = some (v + e k)
theorem Told.set {r : Rows'} {e : Nat → Int} {f : List (Option Int)} {a k b x : Nat} {u : Option Int} (h : Told r e f a k b) (hx : x < f.length) (hn : fAt f x = none) : Told r e (f.set x u) a k b := by
  obtain ⟨v, h1, h2⟩ := h
  refine ⟨v, ?_, ?_⟩
  · rw [fAt_set hx, if_neg (fun q => by rw [q, hn] at h1; cases h1)]; exact h1
  · rw [fAt_set hx, if_neg (fun q => by rw [q, hn] at h2; cases h2)]; exact h2
/-- a search for levels -/
structure Sr (r : Rows') (e : Nat → Int) (f : List (Option Int)) (ord : List Nat) (at' : Nat) : Prop where
  fnd : Fnd r e f
  srch : Srch r ord
  iff : ∀ a, fAt f a ≠ none ↔ a ∈ ord
  told : ∀ p a k b, p < at' → ord[p]? = some a → way r a k b → Told r e f a k b
namespace Y
end Y
end Mir

/-! Mir: effects and heaps that are drawn for a map. -/
namespace Mir
open PySem PySem.Spec PyProof.Rows L2
def eAt (es : List Int) (k : Nat) : Int := es.getD k 0
structure Effs (n : Nat) (b : Int) (es : List Int) : Prop where
  len : es.length = n
  rng : ∀ x ∈ es, -b ≤ x ∧ x ≤ b
namespace Y
end Y
end Mir

/-! Mir: effects of heaps, counts, lists and tuples made of one another. -/
namespace Mir
namespace Y
open PySem PySem.Spec PyProof.Rows L2 Mir
theorem tri_map {α : Type} {g : GM} {t : TM} {e : EM} {η : Env'} {m : Mem} {P : List D → Mem → Prop} (emb f : α → D) (xs : List α) (h : ∀ x ∈ xs, ∃ η1, g (emb x) η m = .ok η1 m ∧ t η1 m = .ok true m ∧ e η1 m = .ok (f x) m) (hl : xs.length ≤ 1000000) (hP : P (xs.map f) m) : Tri (compD g t e η (xs.map emb) m []) P := by
  rw [comp_mapT emb f xs [] h (by simpa using hl)]
  exact hP
theorem tri_filter {α : Type} {g : GM} {t : TM} {e : EM} {η : Env'} {m : Mem} {P : List D → Mem → Prop} (emb f : α → D) (p : α → Bool) (xs : List α) (h : ∀ x ∈ xs, ∃ η1, g (emb x) η m = .ok η1 m ∧ t η1 m = .ok (p x) m ∧ (p x = true → e η1 m = .ok (f x) m)) (hl : xs.length ≤ 1000000) (hP : P ((xs.filter p).map f) m) : Tri (compD g t e η (xs.map emb) m []) P := by
  rw [comp_filterT emb f p xs [] h (by simpa using hl)]
  exact hP
theorem tri_comp {g : GM} {t : TM} {e : EM} {η : Env'} {ds : List D} {m : Mem} {P : List D → Mem → Prop} (I : Nat → Mem → List D → Prop) (h0 : I 0 m [])
    (h : ∀ j d m acc, d ∈ ds → j < ds.length → I j m acc → Tri ((noX (g d η m)).bind fun η1 m1 => (noX (t η1 m1)).bind fun b m2 =>
      if b = true then (noX (e η1 m2)).bind fun y m3 => if acc.length < sizeLine then .ok (acc ++ [y]) m3 else .stk else .ok acc m2) (fun acc' m' => I (j + 1) m' acc'))
    (hP : ∀ m acc, I ds.length m acc → P acc m) : Tri (compD g t e η ds m []) P := (comp_inv I ds h0 h).mono fun acc m h => hP m acc h
/-- all of what is asked is so -/
theorem all_true {α : Type} {g : GM} {e : EM} {η : Env'} {m : Mem} {P : D → Mem → Prop} (I : Mem → Prop) (emb : α → D) (xs : List α) (h0 : I m)
    (h : ∀ x ∈ xs, ∀ m', I m' → Tri (noX (g (emb x) η m')) (fun η1 m1 => Tri (noX (e η1 m1)) (fun y m2 => y = .bl true ∧ I m2))) (hl : xs.length ≤ 900000) (hP : ∀ m', I m' → P (.bl true) m') :
    Tri (compD g mYes e η (xs.map emb) m []) (fun acc m' => Tri (bAll (fun bs => bs.all id) [.lst acc] m') P) := by
  refine tri_comp (fun k m' acc => acc = List.replicate k (.bl true) ∧ I m') ⟨rfl, h0⟩ (fun k d m' acc hd hk hI => ?_) (fun m' acc hI => ?_)
  · obtain ⟨x, hx, rfl⟩ := List.mem_map.mp hd
    obtain ⟨rfl, hI⟩ := hI
    rw [tri_bind]
    refine (h x hx m' hI).mono fun η1 m1 h1 => ?_
    simp only [mYes, noX_ok, bind_ok, if_true, tri_bind]
    refine h1.mono fun y m2 h2 => ?_
    obtain ⟨rfl, h2⟩ := h2
    simp at hk
    rw [List.length_replicate, if_pos (size_lt (by omega)), tri_ok]
    exact ⟨by rw [List.replicate_succ'], h2⟩
  · obtain ⟨rfl, hI⟩ := hI
    have : List.replicate (xs.map emb).length (D.bl true) = (List.replicate xs.length true).map .bl := by simp
    rw [this, bAll_bls, tri_ok]
    have e : (List.replicate xs.length true).all id = true := by simp
    rw [e]
    exact hP m' hI
def effL (h : Hea) : List Int := (h.t.zip h.l).map fun p => p.2 - p.1
theorem effL_at {h : Hea} {n k : Nat} (h1 : h.t.length = n) (h2 : h.l.length = n) (hk : k < n) : eAt (effL h) k = lk h k - tk h k := by
  unfold eAt effL lk tk
  rw [List.getD_eq_getElem?_getD, List.getD_eq_getElem?_getD, List.getD_eq_getElem?_getD, List.getElem?_map, List.getElem?_eq_getElem (show k < (h.t.zip h.l).length by rw [List.length_zip]; omega), List.getElem_zip, List.getElem?_eq_getElem (show k < h.t.length by omega), List.getElem?_eq_getElem (show k < h.l.length by omega)]
  rfl
theorem gIx_cha0 (c : Cha) (m : Mem) : gIx (chaD c) (.int 0) m = .ok (sT c.n) m := by simp [chaD]
theorem gIx_cha1 (c : Cha) (m : Mem) : gIx (chaD c) (.int 1) m = .ok (.tup (c.r.map rowD)) m := by simp [chaD]
/-- the counts of a heap -/
def cntH (h : Hea) (L : Nat → Int) : Nat → Int := fun a => h.s + L a
end Y
end Mir

/-! Mir: lows, plain: rounds over all ways. -/
namespace Mir
namespace Y
open PySem PySem.Spec PyProof.Rows L2 Mir
/-- a row from room 0 that comes to a room with a sum -/
inductive Pth (r : Rows') (e : Nat → Int) : Nat → Int → Prop
  | zero : Pth r e 0 0
  | step {a k b : Nat} {s : Int} : Pth r e a s → way r a k b → Pth r e b (s + e k)
structure IsLow (r : Rows') (e L : Nat → Int) : Prop where
  z : L 0 = 0
  w : ∀ a k b, way r a k b → L b ≤ L a + e k
  p : ∀ a, a < r.length → Pth r e a (L a)
theorem IsLow.le {r : Rows'} {e L : Nat → Int} (h : IsLow r e L) {a : Nat} {s : Int} (p : Pth r e a s) : L a ≤ s := by
  induction p with
  | zero => rw [h.z]; exact Int.le_refl _
  | step _ hw ih => have := h.w _ _ _ hw; omega
theorem IsLow.uniq {r : Rows'} {e L L' : Nat → Int} (h : IsLow r e L) (h' : IsLow r e L') {a : Nat} (ha : a < r.length) : L a = L' a := by
  have h1 := h.le (h'.p a ha)
  have h2 := h'.le (h.p a ha)
  omega
/-- one way looked at -/
def rel (e : Nat → Int) (s : List (Option Int) × Bool) (w : Nat × Nat × Nat) : List (Option Int) × Bool :=
  match fAt s.1 w.1 with
  | none => s
  | some v => match fAt s.1 w.2.2 with
    | none => (s.1.set w.2.2 (some (v + e w.2.1)), true)
    | some u => if v + e w.2.1 < u then (s.1.set w.2.2 (some (v + e w.2.1)), true) else s
def rnd (e : Nat → Int) (ws : List (Nat × Nat × Nat)) (s : List (Option Int) × Bool) : List (Option Int) × Bool := ws.foldl (rel e) s
/-- what stands in the list are sums of rows -/
structure Sums (r : Rows') (e : Nat → Int) (f : List (Option Int)) : Prop where
  len : f.length = r.length
  ok : ∀ a v, fAt f a = some v → Pth r e a v
  z : ∃ v, fAt f 0 = some v ∧ v ≤ 0
section
variable {r : Rows'} {e : Nat → Int}
/-- numbers only fall -/
def Lower (f f' : List (Option Int)) : Prop := ∀ a v, fAt f a = some v → ∃ v', fAt f' a = some v' ∧ v' ≤ v
theorem Lower.refl (f : List (Option Int)) : Lower f f := fun a v h => ⟨v, h, Int.le_refl _⟩
theorem Lower.trans {f g h : List (Option Int)} (a : Lower f g) (b : Lower g h) : Lower f h := fun x v hv => by
  obtain ⟨v1, h1, l1⟩ := a x v hv
  obtain ⟨v2, h2, l2⟩ := b x v1 h1
  exact ⟨v2, h2, by omega⟩
/-- so many are done -/
def ManyP (n t : Nat) (p : Nat → Prop) : Prop := (∀ b, b < n → p b) ∨ ∃ S : List Nat, S.Nodup ∧ (∀ a ∈ S, a < n ∧ p a) ∧ t + 1 ≤ S.length
theorem ManyP.step {n t : Nat} {p p' : Nat → Prop} (h : ManyP n t p) (up : ∀ a, p a → p' a) (go : (∃ b, b < n ∧ ¬ p b) → ∃ b, b < n ∧ ¬ p b ∧ p' b) : ManyP n (t + 1) p' := by
  rcases h with h | ⟨S, nd, hS, hl⟩
  · exact .inl fun b hb => up b (h b hb)
  · by_cases hex : ∃ b, b < n ∧ ¬ p b
    · obtain ⟨b, hb, hn, hp⟩ := go hex
      refine .inr ⟨b :: S, List.nodup_cons.mpr ⟨fun hm => hn (hS b hm).2, nd⟩, fun a ha => ?_, by simp; omega⟩
      rcases List.mem_cons.mp ha with rfl | ha
      · exact ⟨hb, hp⟩
      · exact ⟨(hS a ha).1, up a (hS a ha).2⟩
    · refine .inl fun b hb => up b ?_
      by_cases h : p b
      · exact h
      · exact absurd ⟨b, hb, h⟩ hex
theorem ManyP.all {n t : Nat} {p : Nat → Prop} (h : ManyP n t p) (ht : n ≤ t + 1) : ∀ b, b < n → p b := by
  rcases h with h | ⟨S, nd, hS, hl⟩
  · exact h
  · intro b hb
    have h1 := nodup_len n S nd fun a ha => (hS a ha).1
    exact (hS b (nodup_full nd (fun a ha => (hS a ha).1) (by omega) hb)).2
/-- the first numbers -/
def fst0 (n : Nat) : List (Option Int) := (List.replicate n none).set 0 (some 0)
/-- so many rounds -/
def rnds (e : Nat → Int) (r : Rows') : Nat → List (Option Int)
  | 0 => fst0 r.length
  | t + 1 => (rnd e (wayL r) (rnds e r t, false)).1
def falls (e : Nat → Int) (r : Rows') (t : Nat) : Bool := (rnd e (wayL r) (rnds e r t, false)).2
end
end Y
end Mir

/-! Mir: lows, by the law and by the program. -/
namespace Mir
namespace Y
open PySem PySem.Spec PyProof.Rows L2 Mir
end Y
end Mir

/-! Mir: lows by the program. -/
namespace Mir
namespace Y
open PySem PySem.Spec PyProof.Rows L2 Mir
end Y
end Mir

/-! Mir: the least of numbers; tight heaps. -/
namespace Mir
namespace Y
open PySem PySem.Spec PyProof.Rows L2 Mir
def mn (xs : List Int) : Int := (minL xs).getD 0
/-- the rooms that have a way by a deed -/
def hasW (r : Rows') (k : Nat) (a : Nat) : Bool := (oAt (rAt r a) k).isSome
theorem hasW_iff {r : Rows'} {k a : Nat} : hasW r k a = true ↔ ∃ b, way r a k b := by
  unfold hasW way oAt
  constructor
  · intro h
    cases hx : r[a]? with
    | none =>
      rw [show rAt r a = [] by unfold rAt; rw [List.getD_eq_getElem?_getD, hx]; rfl] at h
      simp at h
    | some x =>
      rw [rAt_eq hx, List.getD_eq_getElem?_getD] at h
      cases hk : x[k]? with
      | none => rw [hk] at h; simp at h
      | some o =>
        rw [hk] at h
        cases o with
        | none => simp at h
        | some b => exact ⟨b, x, rfl, hk⟩
  · rintro ⟨b, x, hx, hk⟩
    rw [rAt_eq hx, List.getD_eq_getElem?_getD, hk]
    rfl
def tgtS (r : Rows') (L : Nat → Int) : Int := 0 - mn ((List.range r.length).map L)
/-- numbers of rooms, as a tuple or a list -/
def NumsAt (m : Mem) (d : D) (n : Nat) (L : Nat → Int) : Prop := seqOf m d = some (((List.range n).map L).map .int)
theorem NumsAt.get {m : Mem} {d : D} {n : Nat} {L : Nat → Int} (h : NumsAt m d n L) {a : Nat} (ha : a < n) : gIx d (.int (a : Nat)) m = .ok (.int (L a)) m := by
  have e : atI (((List.range n).map L).map D.int) (a : Nat) = some (.int (L a)) := atI_nat (by rw [List.getElem?_map, List.getElem?_map, List.getElem?_range ha]; rfl)
  cases d with
  | tup ds =>
    have : ds = _ := Option.some.inj h
    subst this
    exact gIx_tup e
  | lst ds =>
    have : ds = _ := Option.some.inj h
    subst this
    exact gIx_lst e
  | scr ds =>
    have : ds = _ := Option.some.inj h
    subst this
    rw [List.map_map] at e
    simp [gIx, ixOf, lstOf, e, oR]
  | ref i =>
    have h' : lstC m[i]? = some _ := h
    cases hc : m[i]? with
    | none => rw [hc] at h'; cases h'
    | some c =>
      rw [hc] at h'
      cases c with
      | lst l =>
        have : l = _ := Option.some.inj h'
        subst this
        exact gIx_ref hc e
      | _ => cases h'
  | _ => cases h
theorem NumsAt.kp {m m' : Mem} {d : D} {n : Nat} {L : Nat → Int} (h : NumsAt m d n L) (k : Kp m m') : NumsAt m' d n L := by
  cases d with
  | ref i =>
    have h' : lstC m[i]? = some _ := h
    show lstC m'[i]? = some _
    cases hc : m[i]? with
    | none => rw [hc] at h'; cases h'
    | some c => rw [k.get hc, ← hc]; exact h'
  | _ => exact h
section
variable {m : Mem} {c : Cha} {dn de : D} {es : List Int} {L : Nat → Int} {P : D → Mem → Prop}
end
end Y
end Mir

/-! Mir: tight heaps, by the law; heaps that have enough. -/
namespace Mir
namespace Y
open PySem PySem.Spec PyProof.Rows L2 Mir
section
variable {m : Mem} {c : Cha} {dn de : D} {es : List Int} {L : Nat → Int} {P : D → Mem → Prop}
/-- a heap has at each way what the deed takes -/
def Enough (r : Rows') (h : Hea) (L : Nat → Int) : Prop := ∀ a k b, way r a k b → tk h k ≤ L a
/-- a heap bears a map -/
def Bears (r : Rows') (h : Hea) : Prop := ∃ L, IsLow r (eAt (effL h)) L ∧ Enough r h fun a => h.s + L a
end
end Y
end Mir

/-! Mir: plain things compared; heaps that stand in a map. -/
namespace Mir
namespace Y
open PySem PySem.Spec PyProof.Rows L2 Mir
/-- things that are told apart by == -/
structure Enc {α : Type} [DecidableEq α] (f : α → D) (k : Nat) : Prop where
  ex : ∃ p : α → PyData, (∀ m n x, toP m (n + k) (f x) = some (p x)) ∧ ∀ x y, PyData.eqv (p x) (p y) = decide (x = y)
theorem eqvAll_map {α : Type} [DecidableEq α] {p : α → PyData} (h : ∀ x y, PyData.eqv (p x) (p y) = decide (x = y)) : ∀ xs ys : List α, PyData.eqvAll (xs.map p) (ys.map p) = decide (xs = ys)
  | [], [] => rfl
  | [], y :: ys => by simp [PyData.eqvAll]
  | x :: xs, [] => by simp [PyData.eqvAll]
  | x :: xs, y :: ys => by
    show (PyData.eqv (p x) (p y) && PyData.eqvAll (xs.map p) (ys.map p)) = _
    rw [h, eqvAll_map h xs ys, Bool.eq_iff_iff]
    simp
theorem toPs_map {α : Type} {f : α → D} {p : α → PyData} {m : Mem} {n : Nat} (h : ∀ x, toP m n (f x) = some (p x)) (xs : List α) : mapO (toP m n) (xs.map f) = some (xs.map p) := mapO_map (f := toP m n) (g := f) (h := p) h xs
theorem Enc.tup {α : Type} [DecidableEq α] {f : α → D} {k : Nat} (h : Enc f k) : Enc (fun xs : List α => .tup (xs.map f)) (k + 1) := by
  obtain ⟨p, h1, h2⟩ := h.ex
  exact ⟨fun xs => .tuple (xs.map p), fun m n xs => by
    show (mapO (toP m (n + k)) (xs.map f)).map _ = _
    rw [toPs_map (h1 m n)]; rfl, fun xs ys => eqvAll_map h2 xs ys⟩
theorem Enc.lst {α : Type} [DecidableEq α] {f : α → D} {k : Nat} (h : Enc f k) : Enc (fun xs : List α => .lst (xs.map f)) (k + 1) := by
  obtain ⟨p, h1, h2⟩ := h.ex
  exact ⟨fun xs => .list (xs.map p), fun m n xs => by
    show (mapO (toP m (n + k)) (xs.map f)).map _ = _
    rw [toPs_map (h1 m n)]; rfl, fun xs ys => eqvAll_map h2 xs ys⟩
theorem Enc.up {α : Type} [DecidableEq α] {f : α → D} {k j : Nat} (h : Enc f k) (hj : k ≤ j) : Enc f j := by
  obtain ⟨p, h1, h2⟩ := h.ex
  exact ⟨p, fun m n x => by rw [show n + j = (n + (j - k)) + k by omega]; exact h1 m _ x, h2⟩
theorem Enc.of {α β : Type} [DecidableEq α] [DecidableEq β] {f : α → D} {k : Nat} (h : Enc f k) (g : β → α) (hg : ∀ x y, g x = g y → x = y) : Enc (fun x => f (g x)) k := by
  obtain ⟨p, h1, h2⟩ := h.ex
  exact ⟨fun x => p (g x), fun m n x => h1 m n _, fun x y => by
    rw [h2, Bool.eq_iff_iff]
    simp
    exact ⟨hg x y, fun e => by rw [e]⟩⟩
/-! ### heaps that stand in a map -/
section
variable {m : Mem} {c : Cha} {x : Hea} {P : D → Mem → Prop}
structure Stn (r : Rows') (h : Hea) (L : Nat → Int) : Prop where
  lev : IsLev r (eAt (effL h)) L
  pos : ∀ a, a < r.length → 0 ≤ h.s + L a
  en : Enough r h (cntH h L)
def Stands (r : Rows') (h : Hea) : Prop := ∃ L, Stn r h L
theorem Stn.congr {r : Rows'} {w : Nat} {h : Hea} {L L' : Nat → Int} (ok : OkRows w r) (s : Stn r h L) (hL : IsLev r (eAt (effL h)) L') : Stn r h L' :=
  ⟨hL, fun a ha => by rw [hL.uniq s.lev (ok.com a ha)]; exact s.pos a ha, fun a k b hw => by
    have := s.en a k b hw
    unfold cntH at *
    rw [hL.uniq s.lev (ok.com a (way_wid ok.wid hw).1)]
    exact this⟩
end
end Y
end Mir

/-! Mir: bearing by the law; heaps otherwise. -/
namespace Mir
namespace Y
open PySem PySem.Spec PyProof.Rows L2 Mir
section
variable {m : Mem} {c : Cha} {x : Hea} {i : Nat} {P : D → Mem → Prop}
end
end Y
end Mir

/-! Sums and determinants of whole numbers. -/
namespace Sx
def sm : Nat → (Nat → Int) → Int
  | 0, _ => 0
  | n + 1, f => sm n f + f n
theorem sm_congr {f g : Nat → Int} : ∀ {n : Nat}, (∀ i, i < n → f i = g i) → sm n f = sm n g
  | 0, _ => rfl
  | n + 1, h => by
    show sm n f + f n = sm n g + g n
    rw [sm_congr fun i hi => h i (by omega), h n (by omega)]
theorem sm_add (f g : Nat → Int) : ∀ n : Nat, sm n (fun i => f i + g i) = sm n f + sm n g
  | 0 => rfl
  | n + 1 => by
    simp only [sm]
    rw [sm_add f g n]
    omega
theorem sm_mul (c : Int) (f : Nat → Int) : ∀ n : Nat, sm n (fun i => c * f i) = c * sm n f
  | 0 => by simp [sm]
  | n + 1 => by
    show sm n _ + _ = c * (sm n f + f n)
    rw [sm_mul c f n, Int.mul_add]
theorem sm_mulr (c : Int) (f : Nat → Int) (n : Nat) : sm n (fun i => f i * c) = sm n f * c := by
  rw [Int.mul_comm, ← sm_mul]
  exact sm_congr fun i _ => Int.mul_comm _ _
theorem sm_neg (f : Nat → Int) (n : Nat) : sm n (fun i => - f i) = - sm n f := by
  have := sm_mul (-1) f n
  simpa using this
theorem sm_sub (f g : Nat → Int) (n : Nat) : sm n (fun i => f i - g i) = sm n f - sm n g := by
  have : (fun i => f i - g i) = fun i => f i + - g i := by funext i; omega
  rw [this, sm_add, sm_neg]
  omega
theorem sm_zero' {f : Nat → Int} : ∀ {n : Nat}, (∀ i, i < n → f i = 0) → sm n f = 0
  | 0, _ => rfl
  | n + 1, h => by
    show sm n f + f n = 0
    rw [sm_zero' fun i hi => h i (by omega), h n (by omega)]
    rfl
theorem sm_one {f : Nat → Int} {p : Nat} : ∀ {n : Nat}, p < n → (∀ i, i < n → i ≠ p → f i = 0) → sm n f = f p
  | 0, h, _ => absurd h (by omega)
  | n + 1, h, k => by
    show sm n f + f n = f p
    by_cases e : p = n
    · subst e
      rw [sm_zero' fun i hi => k i (by omega) (by omega)]
      omega
    · rw [sm_one (p := p) (by omega) fun i hi => k i (by omega), k n (by omega) (by omega)]
      omega
theorem sm_comm (f : Nat → Nat → Int) (m : Nat) : ∀ n : Nat, sm n (fun i => sm m (f i)) = sm m (fun j => sm n fun i => f i j)
  | 0 => (sm_zero' fun _ _ => rfl).symm
  | n + 1 => by
    show sm n _ + sm m (f n) = sm m _
    rw [sm_comm f m n, ← sm_add]
    rfl
theorem sm_le {f g : Nat → Int} : ∀ {n : Nat}, (∀ i, i < n → f i ≤ g i) → sm n f ≤ sm n g
  | 0, _ => Int.le_refl _
  | n + 1, h => by
    show sm n f + f n ≤ sm n g + g n
    have := sm_le (n := n) (f := f) (g := g) fun i hi => h i (by omega)
    have := h n (by omega)
    omega
theorem sm_nonneg {f : Nat → Int} {n : Nat} (h : ∀ i, i < n → 0 ≤ f i) : 0 ≤ sm n f := by
  have := sm_le (f := fun _ => 0) (g := f) h
  rwa [sm_zero' fun _ _ => rfl] at this
theorem sm_const (c : Int) : ∀ n : Nat, sm n (fun _ => c) = n * c
  | 0 => by simp [sm]
  | n + 1 => by
    show sm n _ + c = _
    rw [sm_const c n, Int.natCast_add, Int.add_mul]
    simp
theorem sm_abs (f : Nat → Int) : ∀ n : Nat, ((sm n f).natAbs : Int) ≤ sm n fun i => ((f i).natAbs : Int)
  | 0 => Int.le_refl _
  | n + 1 => by
    have := sm_abs f n
    simp only [sm]
    omega
theorem sm_split (f : Nat → Int) (a : Nat) : ∀ b : Nat, sm (a + b) f = sm a f + sm b fun i => f (a + i)
  | 0 => by simp [sm]
  | b + 1 => by
    have h := sm_split f a b
    have e1 : sm (a + (b + 1)) f = sm (a + b) f + f (a + b) := rfl
    have e2 : sm (b + 1) (fun i => f (a + i)) = sm b (fun i => f (a + i)) + f (a + b) := rfl
    rw [e1, e2, h, Int.add_assoc]
/-- the sum of what stands at one place -/
theorem sm_at {n p : Nat} (h : p < n) (c : Int) (f : Nat → Int) : sm n (fun i => (if i = p then c else 0) * f i) = c * f p := by
  rw [sm_one (p := p) h]
  · simp
  · intro i _ hi
    simp [hi]
/-! ### determinants -/
def sg (k : Nat) : Int := if k % 2 = 0 then 1 else -1
theorem sg_succ (k : Nat) : sg (k + 1) = - sg k := by
  unfold sg
  by_cases h : k % 2 = 0
  · rw [if_pos h, if_neg (by omega)]
  · rw [if_neg h, if_pos (by omega)]; rfl
theorem sg_two (k : Nat) : sg (k + k) = 1 := by unfold sg; rw [if_pos (by omega)]
theorem sg_abs (k : Nat) : (sg k).natAbs = 1 := by unfold sg; split <;> rfl
abbrev Vs := Nat → Nat → Int
def skip (i : Nat) (v : Vs) : Vs := fun j => if j < i then v j else v (j + 1)
def det : Nat → Vs → Int
  | 0, _ => 1
  | n + 1, v => sm (n + 1) fun i => sg (n + i) * v i n * det n (skip i v)
def upd {α : Type} (v : Nat → α) (p : Nat) (x : α) : Nat → α := fun j => if j = p then x else v j
theorem upd_self {α : Type} (v : Nat → α) (p : Nat) (x : α) : upd v p x p = x := if_pos rfl
theorem upd_ne {α : Type} (v : Nat → α) {p j : Nat} (x : α) (h : j ≠ p) : upd v p x j = v j := if_neg h
theorem upd_id {α : Type} (v : Nat → α) (p : Nat) : upd v p (v p) = v := by
  funext j
  unfold upd
  split
  · rename_i h; rw [h]
  · rfl
theorem upd_comm {α : Type} (v : Nat → α) {p q : Nat} (h : p ≠ q) (x y : α) : upd (upd v p x) q y = upd (upd v q y) p x := by
  funext j
  unfold upd
  by_cases h1 : j = q
  · rw [if_pos h1, if_neg (by omega), if_pos h1]
  · rw [if_neg h1]
    by_cases h2 : j = p
    · rw [if_pos h2, if_pos h2]
    · rw [if_neg h2, if_neg h2, if_neg h1]
theorem skip_lt {i p : Nat} (h : p < i) (v : Vs) (x : Nat → Int) : skip i (upd v p x) = upd (skip i v) p x := by
  funext j
  simp only [skip, upd]
  by_cases h1 : j < i
  · rw [if_pos h1, if_pos h1]
  · rw [if_neg h1, if_neg h1, if_neg (by omega), if_neg (by omega)]
theorem skip_gt {i p : Nat} (h : i < p) (v : Vs) (x : Nat → Int) : skip i (upd v p x) = upd (skip i v) (p - 1) x := by
  funext j
  simp only [skip, upd]
  by_cases h1 : j < i
  · rw [if_pos h1, if_pos h1, if_neg (by omega), if_neg (by omega)]
  · rw [if_neg h1, if_neg h1]
    by_cases h2 : j = p - 1
    · rw [if_pos h2, if_pos (by omega)]
    · rw [if_neg h2, if_neg (by omega)]
theorem skip_eq (i : Nat) (v : Vs) (x : Nat → Int) : skip i (upd v i x) = skip i v := by
  funext j
  simp only [skip, upd]
  by_cases h1 : j < i
  · rw [if_pos h1, if_pos h1, if_neg (by omega)]
  · rw [if_neg h1, if_neg h1, if_neg (by omega)]
theorem det_congr : ∀ {n : Nat} {v w : Vs}, (∀ i j, i < n → j < n → v i j = w i j) → det n v = det n w
  | 0, _, _, _ => rfl
  | n + 1, v, w, h => by
    show sm (n + 1) _ = sm (n + 1) _
    refine sm_congr fun i hi => ?_
    rw [h i n hi (by omega), det_congr (n := n) (v := skip i v) (w := skip i w)]
    intro a b ha hb
    unfold skip
    split
    · exact h a b (by omega) (by omega)
    · exact h (a + 1) b (by omega) (by omega)
theorem det_lin : ∀ {n p : Nat} (v : Vs) (x y : Nat → Int) (c : Int), p < n → det n (upd v p fun j => c * x j + y j) = c * det n (upd v p x) + det n (upd v p y)
  | 0, p, v, x, y, c, h => absurd h (by omega)
  | n + 1, p, v, x, y, c, h => by
    show sm (n + 1) _ = c * sm (n + 1) _ + sm (n + 1) _
    rw [← sm_mul, ← sm_add]
    refine sm_congr fun i hi => ?_
    by_cases e : i = p
    · subst e
      simp only [upd_self, skip_eq, Int.mul_add, Int.add_mul]
      congr 1
      simp only [Int.mul_assoc, Int.mul_left_comm]
    · simp only [upd_ne _ _ e]
      by_cases l : p < i
      · simp only [skip_lt l]
        rw [det_lin (n := n) (skip i v) x y c (by omega), Int.mul_add]
        congr 1
        simp only [Int.mul_assoc, Int.mul_left_comm]
      · have l' : i < p := by omega
        simp only [skip_gt l']
        rw [det_lin (n := n) (skip i v) x y c (by omega), Int.mul_add]
        congr 1
        simp only [Int.mul_assoc, Int.mul_left_comm]
theorem det_zero {n p : Nat} (v : Vs) (h : p < n) : det n (upd v p fun _ => 0) = 0 := by
  have := det_lin v (fun _ => 0) (fun _ => 0) 1 h
  simp only [Int.mul_zero, Int.zero_add, Int.one_mul] at this
  omega
theorem det_smul {n p : Nat} (v : Vs) (x : Nat → Int) (c : Int) (h : p < n) : det n (upd v p fun j => c * x j) = c * det n (upd v p x) := by
  have := det_lin v x (fun _ => 0) c h
  simp only [Int.add_zero] at this
  rw [this, det_zero v h, Int.add_zero]
theorem det_add {n p : Nat} (v : Vs) (x y : Nat → Int) (h : p < n) : det n (upd v p fun j => x j + y j) = det n (upd v p x) + det n (upd v p y) := by
  have := det_lin v x y 1 h
  simpa using this
theorem det_sum {n p : Nat} (v : Vs) (c : Nat → Int) (w : Vs) (h : p < n) : ∀ m : Nat, det n (upd v p fun j => sm m fun i => c i * w i j) = sm m fun i => c i * det n (upd v p (w i))
  | 0 => by
    show det n (upd v p fun _ => 0) = 0
    exact det_zero v h
  | m + 1 => by
    have e : (fun j => sm (m + 1) fun i => c i * w i j) = fun j => c m * w m j + sm m fun i => c i * w i j := by
      funext j
      simp only [sm]
      omega
    rw [e, det_lin v (w m) _ (c m) h, det_sum v c w h m]
    simp only [sm]
    omega
theorem det_adj : ∀ {n p : Nat} {v : Vs}, p + 1 < n → v p = v (p + 1) → det n v = 0
  | 0, p, v, h, _ => absurd h (by omega)
  | n + 1, p, v, h, e => by
    show sm (n + 1) _ = 0
    have hs : skip p v = skip (p + 1) v := by
      funext j
      unfold skip
      by_cases h1 : j < p
      · rw [if_pos h1, if_pos (by omega)]
      · rw [if_neg h1]
        by_cases h2 : j < p + 1
        · rw [if_pos h2, show j = p by omega, e]
        · rw [if_neg h2]
    have hz : ∀ i, i < n + 1 → i ≠ p → i ≠ p + 1 → sg (n + i) * v i n * det n (skip i v) = 0 := by
      intro i hi h1 h2
      by_cases l : i < p
      · rw [det_adj (n := n) (p := p - 1) (by omega) (v := skip i v), Int.mul_zero]
        unfold skip
        rw [if_neg (by omega), if_neg (by omega), show p - 1 + 1 = p by omega, e]
      · rw [det_adj (n := n) (p := p) (by omega) (v := skip i v), Int.mul_zero]
        unfold skip
        rw [if_pos (by omega), if_pos (by omega), e]
    have hsplit : (fun i => sg (n + i) * v i n * det n (skip i v)) = fun i => (if i = p then sg (n + p) * v p n * det n (skip p v) else 0) + (if i = p then 0 else sg (n + i) * v i n * det n (skip i v)) := by
      funext i
      by_cases hi : i = p
      · simp [hi]
      · simp [hi]
    rw [hsplit, sm_add, sm_one (p := p) (by omega) (fun i _ hi => if_neg hi), sm_one (p := p + 1) (by omega) (fun i hi h2 => by
      by_cases h1 : i = p
      · rw [if_pos h1]
      · rw [if_neg h1]; exact hz i hi h1 h2)]
    rw [if_pos rfl, if_neg (by omega), hs, e, show n + (p + 1) = n + p + 1 by omega, sg_succ]
    simp only [Int.neg_mul]
    omega
def swp (v : Vs) (p q : Nat) : Vs := upd (upd v p (v q)) q (v p)
theorem det_swap_of {n p q : Nat} (hp : p < n) (hq : q < n) (hpq : p ≠ q) (h0 : ∀ v : Vs, v p = v q → det n v = 0) (v : Vs) : det n (swp v p q) = - det n v := by
  have h := h0 (upd (upd v p fun j => v p j + v q j) q fun j => v p j + v q j) (by rw [upd_self, upd_ne _ _ hpq, upd_self])
  rw [det_add _ _ _ hq, upd_comm _ hpq, upd_comm _ hpq, det_add _ _ _ hp, det_add _ _ _ hp] at h
  have e1 := h0 (upd (upd v q (v p)) p (v p)) (by rw [upd_self, upd_ne _ _ (Ne.symm hpq), upd_self])
  have e2 := h0 (upd (upd v q (v q)) p (v q)) (by rw [upd_self, upd_ne _ _ (Ne.symm hpq), upd_self])
  have e3 : upd (upd v q (v q)) p (v p) = v := by rw [upd_id, upd_id]
  have e4 : swp v p q = upd (upd v q (v p)) p (v q) := by unfold swp; rw [upd_comm _ hpq]
  rw [e1, e2, e3] at h
  rw [e4]
  omega
theorem det_two : ∀ (d : Nat) {n p : Nat} {v : Vs}, p + d + 1 < n → v p = v (p + d + 1) → det n v = 0
  | 0, n, p, v, h, e => det_adj h e
  | d + 1, n, p, v, h, e => by
    have hs := det_swap_of (n := n) (p := p + d + 1) (q := p + d + 2) (by omega) (by omega) (by omega) (fun v e => det_adj (p := p + d + 1) (by omega) e) v
    have := det_two d (n := n) (p := p) (v := swp v (p + d + 1) (p + d + 2)) (by omega) (by
      unfold swp
      rw [upd_ne _ _ (by omega), upd_ne _ _ (by omega), upd_ne _ _ (by omega), upd_self]
      exact e)
    omega
theorem det_same {n p q : Nat} {v : Vs} (hp : p < n) (hq : q < n) (hpq : p ≠ q) (e : v p = v q) : det n v = 0 := by
  by_cases l : p < q
  · exact det_two (q - p - 1) (n := n) (p := p) (by omega) (by rw [show p + (q - p - 1) + 1 = q by omega]; exact e)
  · exact det_two (p - q - 1) (n := n) (p := q) (by omega) (by rw [show q + (p - q - 1) + 1 = p by omega]; exact e.symm)
theorem det_swap {n p q : Nat} (hp : p < n) (hq : q < n) (hpq : p ≠ q) (v : Vs) : det n (swp v p q) = - det n v :=
  det_swap_of hp hq hpq (fun _ e => det_same hp hq hpq e) v
def idV : Vs := fun i j => if i = j then 1 else 0
theorem det_id : ∀ n : Nat, det n idV = 1
  | 0 => rfl
  | n + 1 => by
    show sm (n + 1) _ = 1
    rw [sm_one (p := n) (by omega) (fun i _ hi => by simp [idV, hi])]
    rw [sg_two, det_congr (w := idV) (n := n) (fun i j hi _ => by unfold skip; rw [if_pos hi]), det_id n]
    simp [idV]
/-- Cramer: a combination put in the place of one -/
theorem cramer {n p : Nat} {v : Vs} {x c : Nat → Int} {u : Int} (hp : p < n) (h : ∀ j, j < n → u * x j = sm n fun i => c i * v i j) : u * det n (upd v p x) = c p * det n v := by
  rw [← det_smul v x u hp, det_congr (w := upd v p fun j => sm n fun i => c i * v i j)]
  · rw [det_sum v c v hp, sm_one (p := p) hp, upd_id]
    intro i hi hn
    rw [det_same (p := i) (q := p) hi hp hn, Int.mul_zero]
    rw [upd_self, upd_ne _ _ hn]
  · intro i j _ hj
    unfold upd
    split
    · exact h j hj
    · rfl
theorem indep {n : Nat} {v : Vs} {c : Nat → Int} (hd : det n v ≠ 0) (h : ∀ j, j < n → sm n (fun i => c i * v i j) = 0) {p : Nat} (hp : p < n) : c p = 0 := by
  have := cramer (v := v) (x := fun _ => 0) (c := c) (u := 0) hp (fun j hj => by rw [h j hj]; simp)
  rw [Int.zero_mul] at this
  rcases Int.mul_eq_zero.mp this.symm with h | h
  · exact h
  · exact absurd h hd
def fac : Nat → Nat
  | 0 => 1
  | n + 1 => (n + 1) * fac n
theorem det_le {b : Nat} : ∀ {n : Nat} {v : Vs}, (∀ i j, i < n → j < n → (v i j).natAbs ≤ b) → (det n v).natAbs ≤ fac n * b ^ n
  | 0, _, _ => by simp [det, fac]
  | n + 1, v, h => by
    have h1 := sm_abs (fun i => sg (n + i) * v i n * det n (skip i v)) (n + 1)
    have h2 : sm (n + 1) (fun i => ((sg (n + i) * v i n * det n (skip i v)).natAbs : Int)) ≤ sm (n + 1) fun _ => ((b * (fac n * b ^ n) : Nat) : Int) := sm_le fun i hi => by
      rw [Int.natAbs_mul, Int.natAbs_mul, sg_abs, Nat.one_mul]
      have h3 := h i n hi (by omega)
      have h4 := det_le (b := b) (n := n) (v := skip i v) (fun a c ha hc => by
        unfold skip
        split
        · exact h a c (by omega) (by omega)
        · exact h (a + 1) c (by omega) (by omega))
      exact Int.ofNat_le.mpr (Nat.mul_le_mul h3 h4)
    rw [sm_const] at h2
    have h5 : ((det (n + 1) v).natAbs : Int) ≤ ((n + 1 : Nat) : Int) * ((b * (fac n * b ^ n) : Nat) : Int) := Int.le_trans h1 h2
    rw [← Int.natCast_mul] at h5
    have h6 := Int.ofNat_le.mp h5
    refine Nat.le_trans h6 (Nat.le_of_eq ?_)
    show _ = (n + 1) * fac n * b ^ (n + 1)
    rw [Nat.pow_succ]
    simp only [Nat.mul_assoc, Nat.mul_comm, Nat.mul_left_comm]
end Sx

/-! Tableaus of whole numbers: a pivot keeps them whole. -/
namespace Sx
theorem sm_two {f : Nat → Int} {n p q : Nat} (hp : p < n) (hq : q < n) (hpq : p ≠ q) (h : ∀ i, i < n → i ≠ p → i ≠ q → f i = 0) : sm n f = f p + f q := by
  have e : f = fun i => (if i = p then f p else 0) + (if i = p then 0 else f i) := by
    funext i
    by_cases hi : i = p
    · simp [hi]
    · simp [hi]
  have e' : sm n f = sm n (fun i => (if i = p then f p else 0) + (if i = p then 0 else f i)) := congrArg _ e
  rw [e', sm_add, sm_one (p := p) hp (fun i _ hi => if_neg hi), sm_one (p := q) hq (fun i hi h2 => by
    by_cases h1 : i = p
    · rw [if_pos h1]
    · rw [if_neg h1]; exact h i hi h1 h2)]
  rw [if_pos rfl, if_neg (Ne.symm hpq)]
structure Tab where
  R : Nat → Nat → Int
  u : Int
  b : Nat → Nat
def bv (M : Vs) (m : Nat) (b : Nat → Nat) : Vs := fun i => if i < m then fun j => M j (b i) else fun j => if j = m then 1 else 0
theorem bv_lt {M : Vs} {m i : Nat} {b : Nat → Nat} (h : i < m) : bv M m b i = fun j => M j (b i) := if_pos h
theorem bv_m (M : Vs) (m : Nat) (b : Nat → Nat) : bv M m b m = fun j => if j = m then 1 else 0 := if_neg (by omega)
structure Good (M : Vs) (m C : Nat) (T : Tab) : Prop where
  pos : 0 < T.u
  comb : ∀ c j, c < C → j < m + 1 → T.u * M j c = sm (m + 1) fun i => T.R i c * bv M m T.b i j
  unit : ∃ s : Int, s * s = 1 ∧ T.u = s * det (m + 1) (bv M m T.b)
  bas : ∀ i, i < m → T.b i < C
section
variable {M : Vs} {m C : Nat} {T : Tab}
theorem Good.ne (g : Good M m C T) : det (m + 1) (bv M m T.b) ≠ 0 := by
  intro h
  obtain ⟨s, _, e⟩ := g.unit
  have := g.pos
  rw [e, h, Int.mul_zero] at this
  omega
theorem Good.entry (g : Good M m C T) {s : Int} (hs : s * s = 1) (hu : T.u = s * det (m + 1) (bv M m T.b)) {i c : Nat} (hi : i < m + 1) (hc : c < C) : T.R i c = s * det (m + 1) (upd (bv M m T.b) i fun j => M j c) := by
  have h := cramer (v := bv M m T.b) (x := fun j => M j c) (c := fun i => T.R i c) (u := T.u) hi (fun j hj => g.comb c j hc hj)
  have hd : det (m + 1) (bv M m T.b) = s * T.u := by rw [hu, ← Int.mul_assoc, hs, Int.one_mul]
  rw [hd] at h
  have hp := g.pos
  have : T.u * (T.R i c) = T.u * (s * det (m + 1) (upd (bv M m T.b) i fun j => M j c)) := by
    rw [Int.mul_left_comm, h, ← Int.mul_assoc, Int.mul_comm s, Int.mul_assoc, ← Int.mul_assoc s, hs, Int.one_mul, Int.mul_comm]
  exact Int.eq_of_mul_eq_mul_left (by omega) this
theorem Good.basic (g : Good M m C T) {i k : Nat} (hi : i < m + 1) (hk : k < m) : T.R i (T.b k) = if i = k then T.u else 0 := by
  have h : T.R i (T.b k) - (if i = k then T.u else 0) = 0 := indep (c := fun i => T.R i (T.b k) - (if i = k then T.u else 0)) g.ne (fun j hj => by
    simp only [Int.sub_mul]
    rw [sm_sub, sm_at (p := k) (by omega), ← g.comb _ j (g.bas k hk) hj, bv_lt hk]
    exact Int.sub_self _) hi
  omega
/-- a step from one tableau to the next -/
structure Piv (m C : Nat) (T T' : Tab) (p q : Nat) : Prop where
  hp : p < m
  hq : q < C
  by' : 0 < T.R p q
  u : T'.u = T.R p q
  b : ∀ i, i < m → T'.b i = upd T.b p q i
  own : ∀ c, c < C → T'.R p c = T.R p c
  row : ∀ k c, k < m + 1 → k ≠ p → c < C → T'.R k c = (T.R k c * T.R p q - T.R k q * T.R p c) / T.u
theorem exact' (g : Good M m C T) {p q k c : Nat} (hp : p < m) (hq : q < C) (hk : k < m + 1) (hkp : k ≠ p) (hc : c < C) : ∃ N : Int, T.u * N = T.R k c * T.R p q - T.R k q * T.R p c := by
  obtain ⟨s, hs, hu⟩ := g.unit
  have hpos := g.pos
  have cmb := g.comb
  generalize hv : bv M m T.b = v at *
  have hp1 : p < m + 1 := by omega
  generalize hvv : upd v p (fun j => M j q) = v'
  have hv'p : v' p = fun j => M j q := by rw [← hvv, upd_self]
  have hv' : ∀ i, i ≠ p → v' i = v i := fun i hi => by rw [← hvv, upd_ne _ _ hi]
  have c1 : T.u * det (m + 1) v' = T.R p q * det (m + 1) v := by
    rw [← hvv]
    exact cramer (c := fun i => T.R i q) hp1 fun j hj => cmb q j hq hj
  have e1 : T.u * det (m + 1) (upd v' k fun j => M j c) = sm (m + 1) fun i => T.R i c * det (m + 1) (upd v' k (v i)) := by
    rw [← det_smul v' _ _ hk, det_congr (w := upd v' k fun j => sm (m + 1) fun i => T.R i c * v i j), det_sum v' _ _ hk]
    intro i j _ hj
    unfold upd
    split
    · exact cmb c j hc hj
    · rfl
  have e2 : T.u * det (m + 1) (upd v' k (v p)) = - (T.R k q * det (m + 1) v) := by
    have w1 : upd v' k (v p) = upd (upd v k (v p)) p fun j => M j q := by rw [← hvv, upd_comm _ (Ne.symm hkp)]
    rw [w1, ← det_smul _ _ _ hp1, det_congr (w := upd (upd v k (v p)) p fun j => sm (m + 1) fun i => T.R i q * v i j), det_sum _ _ _ hp1, sm_one (p := k) hk]
    · have : upd (upd v k (v p)) p (v k) = swp v k p := rfl
      rw [this, det_swap hk hp1 hkp]
      exact Int.mul_neg _ _
    · intro i hi hik
      by_cases h : i = p
      · subst h
        rw [det_same (p := k) (q := i) hk hi hkp, Int.mul_zero]
        rw [upd_self, upd_ne _ _ hkp, upd_self]
      · rw [det_same (p := i) (q := p) hi hp1 h, Int.mul_zero]
        rw [upd_self, upd_ne _ _ h, upd_ne _ _ hik]
    · intro i j _ hj
      unfold upd
      split
      · exact cmb q j hq hj
      · rfl
  rw [sm_two (p := k) (q := p) hk hp1 hkp] at e1
  · have e3 : upd v' k (v k) = v' := by rw [← hv' k hkp, upd_id]
    rw [e3] at e1
    refine ⟨s * det (m + 1) (upd v' k fun j => M j c), ?_⟩
    have h : T.u * (T.u * det (m + 1) (upd v' k fun j => M j c)) = (T.R k c * T.R p q - T.R k q * T.R p c) * det (m + 1) v := by
      rw [e1, Int.mul_add, Int.mul_left_comm, c1, Int.mul_left_comm T.u, e2, Int.sub_mul, Int.mul_neg, ← Int.mul_assoc, ← Int.mul_assoc, Int.mul_comm (T.R p c) (T.R k q)]
      omega
    have h2 : T.u * (T.u * (s * det (m + 1) (upd v' k fun j => M j c))) = T.u * (T.R k c * T.R p q - T.R k q * T.R p c) := by
      rw [Int.mul_left_comm T.u s, Int.mul_left_comm T.u s, h]
      rw [Int.mul_left_comm s, ← hu, Int.mul_comm]
    exact Int.eq_of_mul_eq_mul_left (by omega) h2
  · intro i hi h1 h2
    rw [det_same (p := i) (q := k) hi hk h1, Int.mul_zero]
    rw [upd_self, upd_ne _ _ h1, hv' i h2]
theorem Piv.ex {T' : Tab} {p q : Nat} (v : Piv m C T T' p q) (g : Good M m C T) {k c : Nat} (hk : k < m + 1) (hkp : k ≠ p) (hc : c < C) : T.u * T'.R k c = T.R k c * T.R p q - T.R k q * T.R p c := by
  obtain ⟨N, hN⟩ := exact' g v.hp v.hq hk hkp hc
  have hp := g.pos
  rw [v.row k c hk hkp hc, ← hN, Int.mul_ediv_cancel_left N (by omega)]
theorem Piv.good {T' : Tab} {p q : Nat} (v : Piv m C T T' p q) (g : Good M m C T) : Good M m C T' := by
  have hp1 : p < m + 1 := Nat.lt_succ_of_lt v.hp
  have hpos := g.pos
  have hbv : ∀ i j, i < m + 1 → j < m + 1 → bv M m T'.b i j = upd (bv M m T.b) p (fun j => M j q) i j := fun i j hi _ => by
    by_cases h : i < m
    · rw [bv_lt h, v.b i h]
      by_cases h2 : i = p
      · rw [h2, upd_self, upd_self]
      · rw [upd_ne _ _ h2, upd_ne _ _ h2, bv_lt h]
    · rw [show i = m by omega, bv_m, upd_ne _ _ (by have := v.hp; omega), bv_m]
  refine ⟨by rw [v.u]; exact v.by', fun c j hc hj => ?_, ?_, fun i hi => ?_⟩
  · have hb : ∀ i, i < m + 1 → bv M m T'.b i j = upd (bv M m T.b) p (fun j => M j q) i j := fun i hi => hbv i j hi hj
    rw [sm_congr fun i hi => by rw [hb i hi]]
    have h1 := g.comb c j hc hj
    have h2 := g.comb q j v.hq hj
    -- times T.u
    have key : T.u * sm (m + 1) (fun i => T'.R i c * upd (bv M m T.b) p (fun j => M j q) i j) = T.u * (T.R p q * M j c) := by
      rw [← sm_mul]
      have : ∀ i, i < m + 1 → T.u * (T'.R i c * upd (bv M m T.b) p (fun j => M j q) i j) = (T.R p q * (T.R i c * bv M m T.b i j) - T.R p c * (T.R i q * bv M m T.b i j)) + (if i = p then T.R p c * (T.u * M j q) else 0) * 1 := fun i hi => by
        by_cases e : i = p
        · subst e
          rw [upd_self, if_pos rfl, v.own c hc, Int.mul_one]
          have : T.R i q * (T.R i c * bv M m T.b i j) - T.R i c * (T.R i q * bv M m T.b i j) = 0 := by rw [Int.mul_left_comm]; omega
          rw [this, Int.mul_left_comm]
          omega
        · rw [upd_ne _ _ e, if_neg e, ← Int.mul_assoc, v.ex g hi e hc, Int.sub_mul, Int.zero_mul, Int.add_zero, Int.mul_comm (T.R i c), Int.mul_comm (T.R i q), Int.mul_assoc, Int.mul_assoc]
      rw [sm_congr this, sm_add, sm_sub, sm_mul, sm_mul, ← h1, ← h2, sm_at hp1 _ (fun _ => 1), Int.mul_one, Int.mul_left_comm]
      omega
    rw [v.u]
    exact (Int.eq_of_mul_eq_mul_left (by omega) key).symm
  · obtain ⟨s, hs, hu⟩ := g.unit
    refine ⟨s, hs, ?_⟩
    rw [det_congr hbv, v.u]
    exact g.entry hs hu hp1 v.hq
  · rw [v.b i hi]
    unfold upd
    split
    · exact v.hq
    · exact g.bas i hi
/-- of one basis there is one tableau -/
theorem Good.uniq {T' : Tab} (g : Good M m C T) (g' : Good M m C T') (hb : ∀ i, i < m → T.b i = T'.b i) : T.u = T'.u ∧ ∀ i c, i < m + 1 → c < C → T.R i c = T'.R i c := by
  have hbv : bv M m T.b = bv M m T'.b := by
    funext i
    unfold bv
    by_cases h : i < m
    · rw [if_pos h, if_pos h, hb i h]
    · rw [if_neg h, if_neg h]
  obtain ⟨s, hs, hu⟩ := g.unit
  obtain ⟨s', hs', hu'⟩ := g'.unit
  rw [← hbv] at hu'
  have e : s = s' := by
    have h1 := g.pos
    have h2 := g'.pos
    have a1 : s = 1 ∨ s = -1 := by
      have : s.natAbs * s.natAbs = 1 := by rw [← Int.natAbs_mul, hs]; rfl
      have := Nat.eq_one_of_mul_eq_one_left this
      omega
    have a2 : s' = 1 ∨ s' = -1 := by
      have : s'.natAbs * s'.natAbs = 1 := by rw [← Int.natAbs_mul, hs']; rfl
      have := Nat.eq_one_of_mul_eq_one_left this
      omega
    rcases a1 with rfl | rfl <;> rcases a2 with rfl | rfl <;> omega
  subst e
  refine ⟨hu.trans hu'.symm, fun i c hi hc => ?_⟩
  rw [g.entry hs hu hi hc, g'.entry hs (by rw [← hbv]; exact hu') hi hc, hbv]
/-- the first tableau -/
theorem Good.first (h : ∀ i j, i < m → j < m + 1 → M j (T.b i) = if i = j then 1 else 0) (hb : ∀ i, i < m → T.b i < C) (hu : T.u = 1) (hR : ∀ i c, i < m + 1 → c < C → T.R i c = M i c) : Good M m C T := by
  have hv : ∀ i j, i < m + 1 → j < m + 1 → bv M m T.b i j = idV i j := fun i j hi hj => by
    unfold bv idV
    by_cases hm : i < m
    · rw [if_pos hm, h i j hm hj]
    · rw [if_neg hm, show i = m by omega]
      by_cases e : j = m
      · rw [if_pos e, if_pos e.symm]
      · rw [if_neg e, if_neg (Ne.symm e)]
  refine ⟨by rw [hu]; decide, fun c j hc hj => ?_, ⟨1, rfl, ?_⟩, hb⟩
  · rw [sm_congr (fun i hi => by rw [hv i j hi hj]), sm_one (p := j) hj, hR j c hj hc, hu]
    · simp [idV]
    · intro i _ hi
      simp [idV, hi]
  · rw [det_congr hv, det_id, hu]
    rfl
theorem Good.bound (g : Good M m C T) {B : Nat} (hB : ∀ j c, j < m + 1 → c < C → (M j c).natAbs ≤ B) (h1 : 1 ≤ B) {i c : Nat} (hi : i < m + 1) (hc : c < C) : (T.R i c).natAbs ≤ fac (m + 1) * B ^ (m + 1) := by
  obtain ⟨s, hs, hu⟩ := g.unit
  rw [g.entry hs hu hi hc, Int.natAbs_mul]
  have : s.natAbs = 1 := by
    have : s.natAbs * s.natAbs = 1 := by rw [← Int.natAbs_mul, hs]; rfl
    exact Nat.eq_one_of_mul_eq_one_left this
  rw [this, Nat.one_mul]
  refine det_le fun a j ha hj => ?_
  unfold upd
  split
  · exact hB j c hj hc
  · unfold bv
    split
    · rename_i h
      exact hB j _ hj (g.bas a h)
    · show (if j = m then (1 : Int) else 0).natAbs ≤ B
      split
      · exact h1
      · exact Nat.zero_le _
end
end Sx

/-! The search: it comes to an end, and what it tells. -/
namespace Sx
theorem sm_all0 {f : Nat → Int} : ∀ {n : Nat}, (∀ i, i < n → 0 ≤ f i) → sm n f = 0 → ∀ i, i < n → f i = 0
  | 0, _, _, i, hi => absurd hi (by omega)
  | n + 1, h, e, i, hi => by
    simp only [sm] at e
    have h1 := sm_nonneg (n := n) fun i hi => h i (by omega)
    have h2 := h n (by omega)
    by_cases he : i = n
    · subst he; omega
    · exact sm_all0 (n := n) (fun i hi => h i (by omega)) (by omega) i (by omega)
section
variable {M : Vs} {m C : Nat} {T : Tab}
/-- what holds in the rows holds in each tableau -/
theorem Good.sol (g : Good M m C T) {x : Nat → Int} {xw : Int} (h : ∀ j, j < m + 1 → sm C (fun c => x c * M j c) + xw * (if j = m then 1 else 0) = 0) {i : Nat} (hi : i < m + 1) :
    sm C (fun c => x c * T.R i c) + xw * T.u * (if i = m then 1 else 0) = 0 := by
  refine indep (c := fun i => sm C (fun c => x c * T.R i c) + xw * T.u * (if i = m then 1 else 0)) g.ne (fun j hj => ?_) hi
  have e1 : sm (m + 1) (fun i => (sm C (fun c => x c * T.R i c) + xw * T.u * (if i = m then 1 else 0)) * bv M m T.b i j) = sm (m + 1) (fun i => sm C fun c => x c * (T.R i c * bv M m T.b i j)) + sm (m + 1) (fun i => (if i = m then xw * T.u else 0) * bv M m T.b i j) := by
    rw [← sm_add]
    refine sm_congr fun i _ => ?_
    rw [Int.add_mul, ← sm_mulr]
    congr 1
    · exact sm_congr fun c _ => Int.mul_assoc _ _ _
    · by_cases e : i = m
      · rw [if_pos e, if_pos e, Int.mul_one]
      · rw [if_neg e, if_neg e, Int.mul_zero]
  rw [e1, sm_comm, sm_at (p := m) (by omega), bv_m]
  have e2 : sm C (fun c => sm (m + 1) fun i => x c * (T.R i c * bv M m T.b i j)) = T.u * sm C fun c => x c * M j c := by
    rw [← sm_mul]
    refine sm_congr fun c hc => ?_
    rw [sm_mul, ← g.comb c j hc hj, Int.mul_left_comm]
  rw [e2]
  have := h j hj
  have h2 : sm C (fun c => x c * M j c) = - (xw * (if j = m then 1 else 0)) := by omega
  rw [h2]
  simp only [Int.mul_neg, Int.mul_assoc, Int.mul_left_comm T.u]
  omega
theorem Good.row (g : Good M m C T) {x : Nat → Int} {xw : Int} (h : ∀ i, i < m + 1 → sm C (fun c => x c * T.R i c) + xw * T.u * (if i = m then 1 else 0) = 0) {j : Nat} (hj : j < m + 1) :
    sm C (fun c => x c * M j c) + xw * (if j = m then 1 else 0) = 0 := by
  have hp := g.pos
  have key : T.u * (sm C (fun c => x c * M j c) + xw * (if j = m then 1 else 0)) = T.u * 0 := by
    rw [Int.mul_add, ← sm_mul, sm_congr (fun c hc => by rw [Int.mul_left_comm, g.comb c j hc hj, ← sm_mul]), ← sm_comm (fun i c => x c * (T.R i c * bv M m T.b i j))]
    have e : (T.u * (xw * if j = m then 1 else 0)) = sm (m + 1) (fun i => (if i = m then xw * T.u else 0) * bv M m T.b i j) := by
      rw [sm_at (p := m) (by omega), bv_m]
      simp only [Int.mul_assoc, Int.mul_left_comm]
    rw [e, ← sm_add, Int.mul_zero]
    refine sm_zero' fun i hi => ?_
    have := h i hi
    rw [sm_congr (fun c _ => (Int.mul_assoc (x c) (T.R i c) _).symm), sm_mulr, ← Int.add_mul]
    have e2 : (if i = m then xw * T.u else 0) = xw * T.u * (if i = m then 1 else 0) := by
      by_cases e : i = m
      · rw [if_pos e, if_pos e, Int.mul_one]
      · rw [if_neg e, if_neg e, Int.mul_zero]
    rw [e2, this, Int.zero_mul]
  exact Int.eq_of_mul_eq_mul_left (by omega) key
/-- along a column -/
def dir (T : Tab) (m s : Nat) : Nat → Int := fun c => (if c = s then T.u else 0) - sm m fun k => if T.b k = c then T.R k s else 0
theorem dir_sum {n : Nat} (f : Nat → Int) {s : Nat} (hs : s < n) (hb : ∀ k, k < m → T.b k < n) : sm n (fun c => dir T m s c * f c) = T.u * f s - sm m fun k => T.R k s * f (T.b k) := by
  unfold dir
  simp only [Int.sub_mul]
  rw [sm_sub, sm_at hs]
  congr 1
  rw [sm_congr (fun c _ => (sm_mulr (f c) _ m).symm), sm_comm (fun c k => (if T.b k = c then T.R k s else 0) * f c)]
  refine sm_congr fun k hk => ?_
  rw [sm_congr (fun c _ => by rw [show (if T.b k = c then T.R k s else 0) = (if c = T.b k then T.R k s else 0) by
    by_cases e : T.b k = c
    · rw [if_pos e, if_pos e.symm]
    · rw [if_neg e, if_neg (Ne.symm e)]]), sm_at (hb k hk)]
theorem Good.dirs (g : Good M m C T) {s : Nat} (hs : s < C) {j : Nat} (hj : j < m + 1) : sm C (fun c => dir T m s c * M j c) + (- T.R m s) * (if j = m then 1 else 0) = 0 := by
  refine g.row (fun i hi => ?_) hj
  rw [dir_sum _ hs g.bas, sm_congr (fun k hk => by rw [g.basic hi hk])]
  by_cases e : i = m
  · subst e
    rw [if_pos rfl, sm_zero' (fun k hk => by rw [if_neg (by omega), Int.mul_zero]), Int.mul_one, Int.neg_mul, Int.mul_comm]
    omega
  · rw [if_neg e, sm_one (p := i) (by omega) (fun k _ hk => by rw [if_neg (Ne.symm hk), Int.mul_zero]), if_pos rfl, Int.mul_zero, Int.mul_comm]
    omega
theorem Good.two {T' : Tab} (g : Good M m C T) (g' : Good M m C T') {s : Nat} (hs : s < C) : T.u * T'.R m s - sm m (fun k => T.R k s * T'.R m (T.b k)) = T.R m s * T'.u := by
  have h := g'.sol (x := dir T m s) (xw := - T.R m s) (fun j hj => g.dirs hs hj) (i := m) (by omega)
  rw [dir_sum _ hs g.bas, if_pos rfl, Int.mul_one, Int.neg_mul] at h
  omega
end
/-- the rows to begin with: w columns that may come in, m of their own, what is due -/
structure Sys (M : Vs) (m w : Nat) : Prop where
  own : ∀ i k, i < m → k < m → M i (w + k) = if i = k then 1 else 0
  ownL : ∀ k, k < m → M m (w + k) = 0
  last : ∀ c, c < w ∨ c = w + m → M m c = - sm m fun i => M i c
  due : ∀ i, i < m → 0 ≤ M i (w + m)
structure Ok (M : Vs) (m w : Nat) (T : Tab) : Prop where
  good : Good M m (w + m + 1) T
  feas : ∀ i, i < m → 0 ≤ T.R i (w + m)
  bas : ∀ i, i < m → T.b i < w + m
structure Stp (m w : Nat) (T T' : Tab) (p q : Nat) : Prop where
  piv : Piv m (w + m + 1) T T' p q
  hq : q < w
  neg : T.R m q < 0
  least : ∀ c, c < q → 0 ≤ T.R m c
  leave : ∀ k, k < m → 0 < T.R k q → T.R p (w + m) * T.R k q < T.R k (w + m) * T.R p q ∨ T.R p (w + m) * T.R k q = T.R k (w + m) * T.R p q ∧ T.b p ≤ T.b k
section
variable {M : Vs} {m w : Nat} {T T' : Tab} {p q : Nat}
theorem nonneg_of_mul {a b : Int} (ha : 0 < a) (h : 0 ≤ a * b) : 0 ≤ b := by
  by_cases hb : 0 ≤ b
  · exact hb
  · have : a * b < 0 := Int.mul_neg_of_pos_of_neg ha (by omega)
    omega
theorem Stp.ok (t : Stp m w T T' p q) (o : Ok M m w T) : Ok M m w T' := by
  have hp := o.good.pos
  refine ⟨t.piv.good o.good, fun i hi => ?_, fun i hi => ?_⟩
  · by_cases e : i = p
    · subst e
      rw [t.piv.own _ (by omega)]
      exact o.feas i hi
    · have h := t.piv.ex o.good (k := i) (c := w + m) (by omega) e (by omega)
      refine nonneg_of_mul hp ?_
      rw [h]
      have h1 := o.feas i hi
      have h2 := o.feas p t.piv.hp
      have h3 := t.piv.by'
      by_cases hn : 0 < T.R i q
      · have := t.leave i hi hn
        have e1 : T.R i q * T.R p (w + m) = T.R p (w + m) * T.R i q := Int.mul_comm _ _
        omega
      · have a1 : 0 ≤ T.R i (w + m) * T.R p q := Int.mul_nonneg h1 (by omega)
        have a2 : 0 ≤ (- T.R i q) * T.R p (w + m) := Int.mul_nonneg (by omega) h2
        rw [Int.neg_mul] at a2
        omega
  · rw [t.piv.b i hi]
    unfold upd
    split
    · have := t.hq; omega
    · exact o.bas i hi
/-- what is left grows no more -/
theorem Stp.obj (t : Stp m w T T' p q) (o : Ok M m w T) : T.R m (w + m) * T'.u ≤ T'.R m (w + m) * T.u := by
  have h := t.piv.ex o.good (k := m) (c := w + m) (by omega) (by have := t.piv.hp; omega) (by omega)
  rw [t.piv.u, Int.mul_comm (T'.R m (w + m)), h]
  have a2 : 0 ≤ (- T.R m q) * T.R p (w + m) := Int.mul_nonneg (by have := t.neg; omega) (o.feas p t.piv.hp)
  rw [Int.neg_mul] at a2
  omega
/-- a column that comes in isn't there yet -/
theorem Stp.new (t : Stp m w T T' p q) (o : Ok M m w T) {i : Nat} (hi : i < m) : T.b i ≠ q := by
  intro e
  have := o.good.basic (i := m) (by omega) hi
  rw [e, if_neg (by omega)] at this
  have := t.neg
  omega
end
/-- a chain of steps -/
structure Chn (M : Vs) (m w n : Nat) (f : Nat → Tab) (p q : Nat → Nat) : Prop where
  ok : Ok M m w (f 0)
  st : ∀ i, i < n → Stp m w (f i) (f (i + 1)) (p i) (q i)
section
variable {M : Vs} {m w n : Nat} {f : Nat → Tab} {p q : Nat → Nat}
theorem Chn.all (c : Chn M m w n f p q) : ∀ i, i ≤ n → Ok M m w (f i)
  | 0, _ => c.ok
  | i + 1, h => (c.st i (by omega)).ok (c.all i (by omega))
theorem mul_le_trans {a b c x y z : Int} (hy : 0 < y) (hx : 0 < x) (hz : 0 < z) (h1 : a * y ≤ b * x) (h2 : b * z ≤ c * y) : a * z ≤ c * x := by
  have e1 : a * y * z ≤ b * x * z := Int.mul_le_mul_of_nonneg_right h1 (by omega)
  have e2 : b * z * x ≤ c * y * x := Int.mul_le_mul_of_nonneg_right h2 (by omega)
  have e3 : y * (a * z) ≤ y * (c * x) := by
    have q1 : y * (a * z) = a * y * z := by simp only [Int.mul_comm, Int.mul_left_comm]
    have q2 : b * x * z = b * z * x := by simp only [Int.mul_comm, Int.mul_left_comm]
    have q3 : c * y * x = y * (c * x) := by simp only [Int.mul_comm, Int.mul_left_comm]
    omega
  exact Int.le_of_mul_le_mul_left e3 hy
theorem Chn.objs (c : Chn M m w n f p q) (i : Nat) : ∀ d, i + d ≤ n → (f i).R m (w + m) * (f (i + d)).u ≤ (f (i + d)).R m (w + m) * (f i).u
  | 0, _ => Int.le_refl _
  | d + 1, h => by
    have h1 := c.objs i d (by omega)
    have h2 := (c.st (i + d) (by omega)).obj (c.all (i + d) (by omega))
    exact mul_le_trans (c.all (i + d) (by omega)).good.pos (c.all i (by omega)).good.pos (c.all (i + d + 1) (by omega)).good.pos h1 h2
def In (m : Nat) (T : Tab) (c : Nat) : Prop := ∃ i, i < m ∧ T.b i = c
theorem Chn.leaves (c : Chn M m w n f p q) {x a : Nat} : ∀ d, a + d ≤ n → In m (f a) x → ¬ In m (f (a + d)) x → ∃ i, i < n ∧ (f i).b (p i) = x
  | 0, _, h1, h2 => absurd h1 h2
  | d + 1, h, h1, h2 => by
    by_cases e : In m (f (a + d)) x
    · obtain ⟨i, hi, hx⟩ := e
      have hb := (c.st (a + d) (by omega)).piv.b i hi
      unfold upd at hb
      split at hb
      · rename_i he
        exact ⟨a + d, by omega, by rw [← he]; exact hx⟩
      · exact absurd ⟨i, hi, hb.trans hx⟩ h2
    · exact c.leaves d (by omega) h1 e
end
end Sx

/-! The search's end, and what it tells. -/
namespace Sx
def code (K : Nat) (b : Nat → Nat) : Nat → Nat
  | 0 => 0
  | m + 1 => code K b m + b m * K ^ m
theorem nodup_le : ∀ (n : Nat) (l : List Nat), l.Nodup → (∀ a ∈ l, a < n) → l.length ≤ n
  | 0, l, _, h => by
    cases l with
    | nil => exact Nat.le_refl _
    | cons a l => exact absurd (h a List.mem_cons_self) (by omega)
  | n + 1, l, nd, h => by
    by_cases hm : n ∈ l
    · have h1 := nodup_le n (l.erase n) (nd.erase n) (fun a ha => by
        have h2 := h a (List.mem_of_mem_erase ha)
        have h3 : a ≠ n := fun e => by
          subst e
          exact (List.Nodup.mem_erase_iff nd).mp ha |>.1 rfl
        omega)
      rw [List.length_erase_of_mem hm] at h1
      omega
    · have h1 := nodup_le n l nd (fun a ha => by
        have h2 := h a ha
        have h3 : a ≠ n := fun e => hm (e ▸ ha)
        omega)
      omega
section
variable {M : Vs} {m w n : Nat} {f : Nat → Tab} {p q : Nat → Nat}
theorem Chn.cut (c : Chn M m w n f p q) {i j : Nat} (h : i + j ≤ n) : Chn M m w j (fun k => f (i + k)) (fun k => p (i + k)) (fun k => q (i + k)) :=
  ⟨c.all i (by omega), fun k hk => c.st (i + k) (by omega)⟩
end
section
variable {M : Vs} {m w : Nat} {T : Tab}
theorem sum_own (f : Nat → Int) : sm (w + m + 1) (fun c => f c * (if w ≤ c ∧ c < w + m then 1 else 0)) = sm m fun k => f (w + k) := by
  have e : sm (w + m + 1) (fun c => f c * (if w ≤ c ∧ c < w + m then (1 : Int) else 0)) = sm (w + m) (fun c => f c * (if w ≤ c ∧ c < w + m then (1 : Int) else 0)) + f (w + m) * (if w ≤ w + m ∧ w + m < w + m then (1 : Int) else 0) := rfl
  rw [e, if_neg (by omega), Int.mul_zero, Int.add_zero, sm_split, sm_zero' (n := w) (fun i hi => by rw [if_neg (by omega), Int.mul_zero]), Int.zero_add]
  exact sm_congr fun k hk => by rw [if_pos (by omega), Int.mul_one]
theorem Sys.tot (S : Sys M m w) {c : Nat} (hc : c < w + m + 1) : M m c + sm m (fun i => M i c) = if w ≤ c ∧ c < w + m then 1 else 0 := by
  by_cases h : w ≤ c ∧ c < w + m
  · rw [if_pos h]
    have e : c = w + (c - w) := by omega
    rw [e, S.ownL _ (by omega), sm_one (p := c - w) (by omega) (fun i hi hn => by rw [S.own i _ hi (by omega), if_neg hn]), S.own _ _ (by omega) (by omega), if_pos rfl]
    rfl
  · rw [if_neg h, S.last c (by omega)]
    omega
/-- the sum of the own ones of what adds up -/
theorem Sys.sums (S : Sys M m w) {x : Nat → Int} {y : Nat → Int} (h : ∀ j, j < m + 1 → sm (w + m + 1) (fun c => x c * M j c) = y j) : sm m (fun k => x (w + k)) = y m + sm m y := by
  rw [← sum_own x, sm_congr (fun c hc => by rw [← S.tot hc, Int.mul_add, ← sm_mul]), sm_add, sm_comm, h m (by omega)]
  congr 1
  exact sm_congr fun i hi => h i (by omega)
theorem Ok.leaves (S : Sys M m w) (o : Ok M m w T) {q : Nat} (hq : q < w) (hn : T.R m q < 0) : ∃ k, k < m ∧ 0 < T.R k q := by
  by_cases hex : ∃ k, k < m ∧ 0 < T.R k q
  · exact hex
  · exfalso
    have hall : ∀ k, k < m → T.R k q ≤ 0 := fun k hk => by
      by_cases h : 0 < T.R k q
      · exact absurd ⟨k, hk, h⟩ hex
      · omega
    have h := S.sums (x := dir T m q) (y := fun j => if j = m then T.R m q else 0) (fun j hj => by
      have := o.good.dirs (s := q) (by omega) hj
      by_cases e : j = m
      · rw [if_pos e] at this ⊢; omega
      · rw [if_neg e] at this ⊢; omega)
    simp only [if_true] at h
    rw [sm_zero' (f := fun j => if j = m then T.R m q else 0) (fun i hi => if_neg (by omega))] at h
    have : 0 ≤ sm m (fun k => dir T m q (w + k)) := sm_nonneg fun k hk => by
      unfold dir
      have h1 : sm m (fun i => if T.b i = w + k then T.R i q else 0) ≤ 0 := by
        have := sm_le (n := m) (f := fun i => if T.b i = w + k then T.R i q else 0) (g := fun _ => 0) (fun i hi => by
          split
          · exact hall i hi
          · exact Int.le_refl _)
        rwa [sm_zero' fun _ _ => rfl] at this
      have := o.good.pos
      split <;> omega
    omega
/-- the numbers that stand in the basis -/
def val (T : Tab) (m r : Nat) : Nat → Int := fun c => sm m fun k => if T.b k = c then T.R k r else 0
theorem val_nonneg (o : Ok M m w T) (c : Nat) : 0 ≤ val T m (w + m) c := sm_nonneg fun k hk => by
  split
  · exact o.feas k hk
  · exact Int.le_refl _
theorem val_sum {n : Nat} (f : Nat → Int) (r : Nat) (hb : ∀ k, k < m → T.b k < n) : sm n (fun c => val T m r c * f c) = sm m fun k => T.R k r * f (T.b k) := by
  unfold val
  rw [sm_congr (fun c _ => (sm_mulr (f c) _ m).symm), sm_comm (fun c k => (if T.b k = c then T.R k r else 0) * f c)]
  refine sm_congr fun k hk => ?_
  rw [sm_congr (fun c _ => by rw [show (if T.b k = c then T.R k r else 0) = (if c = T.b k then T.R k r else 0) by
    by_cases e : T.b k = c
    · rw [if_pos e, if_pos e.symm]
    · rw [if_neg e, if_neg (Ne.symm e)]]), sm_at (hb k hk)]
theorem Ok.vals (o : Ok M m w T) {j : Nat} (hj : j < m + 1) : sm (w + m + 1) (fun c => val T m (w + m) c * M j c) = T.u * M j (w + m) - (if j = m then T.R m (w + m) else 0) := by
  rw [val_sum _ _ o.good.bas, o.good.comb (w + m) j (by omega) hj]
  simp only [sm]
  rw [bv_m, sm_congr (f := fun i => T.R i (w + m) * bv M m T.b i j) (g := fun i => T.R i (w + m) * M j (T.b i)) (fun i hi => by rw [bv_lt hi])]
  by_cases e : j = m
  · simp only [if_pos e]; omega
  · simp only [if_neg e]; omega
theorem Ok.rest (S : Sys M m w) (o : Ok M m w T) : sm m (fun k => val T m (w + m) (w + k)) = - T.R m (w + m) := by
  have h := S.sums (x := val T m (w + m)) (y := fun j => T.u * M j (w + m) - (if j = m then T.R m (w + m) else 0)) (fun j hj => o.vals hj)
  rw [h]
  simp only [if_true]
  rw [sm_sub, sm_mul, sm_zero' (f := fun j => if j = m then T.R m (w + m) else 0) (fun i hi => if_neg (by omega)), S.last (w + m) (.inr rfl), Int.mul_neg]
  omega
/-- where nothing is left: numbers from 0 on that add up -/
theorem Ok.found (S : Sys M m w) (o : Ok M m w T) (h0 : T.R m (w + m) = 0) {i : Nat} (hi : i < m) : sm w (fun c => val T m (w + m) c * M i c) = T.u * M i (w + m) := by
  have h := o.vals (j := i) (by omega)
  rw [if_neg (by omega), Int.sub_zero] at h
  rw [← h]
  have hr := o.rest S
  rw [h0] at hr
  have hz := sm_all0 (fun k _ => val_nonneg o (w + k)) hr
  have hv : val T m (w + m) (w + m) = 0 := sm_zero' fun k hk => if_neg (by have := o.bas k hk; omega)
  have e : sm (w + m + 1) (fun c => val T m (w + m) c * M i c) = sm (w + m) (fun c => val T m (w + m) c * M i c) + val T m (w + m) (w + m) * M i (w + m) := rfl
  rw [e, hv, Int.zero_mul, Int.add_zero, sm_split, sm_zero' (n := m) (fun k hk => by rw [hz k hk, Int.zero_mul]), Int.add_zero]
end
end Sx

/-! Sx: a determinant is at most the product of its vectors' sums of amounts; what weights come to at most. -/
namespace Sx
section
variable {M : Vs} {m w : Nat} {T : Tab}
end
end Sx

/-! Mir: the search's steps: which column comes in, which row gives way, all rows anew. -/
namespace Mir
namespace Y
open PySem PySem.Spec PyProof.Rows L2 Mir
def ro (rows : List (List Int)) (i : Nat) : List Int := rows.getD i []
def en (r : List Int) (c : Nat) : Int := r.getD c 0
def bt (bs : List Nat) (i : Nat) : Nat := bs.getD i 0
def eI (rows : List (List Int)) (i c : Nat) : Int := en (ro rows i) c
theorem en_get {r : List Int} {c : Nat} (h : c < r.length) : r[c]? = some (en r c) := by
  unfold en
  rw [List.getD_eq_getElem?_getD, List.getElem?_eq_getElem h]; rfl
structure Shp (rows : List (List Int)) (n C : Nat) : Prop where
  len : rows.length = n
  wid : ∀ r ∈ rows, r.length = C
/-- a number that isn't too great -/
def Sm (x : Int) : Prop := x.natAbs < 2 ^ 4000
def AllSm (rows : List (List Int)) : Prop := ∀ r ∈ rows, ∀ x ∈ r, Sm x
theorem Shp.get {rows : List (List Int)} {n C i : Nat} (h : Shp rows n C) (hi : i < n) : rows[i]? = some (ro rows i) := by
  unfold ro
  rw [List.getD_eq_getElem?_getD, List.getElem?_eq_getElem (by rw [h.len]; exact hi)]; rfl
theorem Shp.row {rows : List (List Int)} {n C i : Nat} (h : Shp rows n C) (hi : i < n) : (ro rows i).length = C := h.wid _ (List.mem_of_getElem? (h.get hi))
/-- the row that gives way -/
structure Lv (rows : List (List Int)) (bs : List Nat) (c r n p : Nat) : Prop where
  lt : p < n
  pos : 0 < eI rows p c
  least : ∀ k, k < n → 0 < eI rows k c → eI rows p r * eI rows k c < eI rows k r * eI rows p c ∨ eI rows p r * eI rows k c = eI rows k r * eI rows p c ∧ bt bs p ≤ bt bs k
theorem cross {a b c x y z : Int} (hx : 0 < x) (hy : 0 < y) (hz : 0 < z) (h1 : a * y ≤ b * x) (h2 : b * z ≤ c * y) : a * z ≤ c * x := Sx.mul_le_trans hy hx hz h1 h2
theorem cross_lt {a b c x y z : Int} (hx : 0 < x) (hy : 0 < y) (hz : 0 < z) (h1 : a * y < b * x) (h2 : b * z ≤ c * y) : a * z < c * x := by
  have e1 : a * y * z < b * x * z := Int.mul_lt_mul_of_pos_right h1 hz
  have e2 : b * z * x ≤ c * y * x := Int.mul_le_mul_of_nonneg_right h2 (by omega)
  have e3 : y * (a * z) < y * (c * x) := by
    have q1 : y * (a * z) = a * y * z := by simp only [Int.mul_comm, Int.mul_left_comm]
    have q2 : b * x * z = b * z * x := by simp only [Int.mul_comm, Int.mul_left_comm]
    have q3 : c * y * x = y * (c * x) := by simp only [Int.mul_comm, Int.mul_left_comm]
    omega
  exact Int.lt_of_mul_lt_mul_left e3 (by omega)
theorem Lv.next {rows : List (List Int)} {bs : List Nat} {c r n p : Nat} (h : Lv rows bs c r n p) (hn : 0 < eI rows n c) (hb : eI rows n r * eI rows p c < eI rows p r * eI rows n c ∨ eI rows n r * eI rows p c = eI rows p r * eI rows n c ∧ bt bs n < bt bs p) : Lv rows bs c r (n + 1) n := by
  refine ⟨Nat.lt_succ_self n, hn, fun k hk hkc => ?_⟩
  by_cases e : k = n
  · subst e; exact .inr ⟨rfl, Nat.le_refl _⟩
  · have h1 := h.least k (by omega) hkc
    have hp := h.pos
    rcases hb with hb | ⟨hb, hl⟩
    · refine .inl (cross_lt (b := eI rows p r) hn hp hkc hb ?_)
      rcases h1 with h1 | h1
      · omega
      · omega
    · rcases h1 with h1 | ⟨h1, h2⟩
      · left
        have e1 : eI rows n r * eI rows k c ≤ eI rows k r * eI rows n c := cross (b := eI rows p r) hn hp hkc (by omega) (by omega)
        rcases Int.lt_or_eq_of_le e1 with e1 | e1
        · exact e1
        · exfalso
          -- then p and k are alike
          have e2 : eI rows k r * eI rows p c ≤ eI rows p r * eI rows k c := cross (b := eI rows n r) hkc hn hp (by omega) (by omega)
          omega
      · right
        have e1 : eI rows n r * eI rows k c ≤ eI rows k r * eI rows n c := cross (b := eI rows p r) hn hp hkc (by omega) (by omega)
        have e2 : eI rows k r * eI rows n c ≤ eI rows n r * eI rows k c := cross (b := eI rows p r) hkc hp hn (by omega) (by omega)
        exact ⟨by omega, by omega⟩
theorem Lv.keep {rows : List (List Int)} {bs : List Nat} {c r n p : Nat} (h : Lv rows bs c r n p) (hb : 0 < eI rows n c → ¬ (eI rows n r * eI rows p c < eI rows p r * eI rows n c ∨ eI rows n r * eI rows p c = eI rows p r * eI rows n c ∧ bt bs n < bt bs p)) : Lv rows bs c r (n + 1) p := by
  refine ⟨Nat.lt_succ_of_lt h.lt, h.pos, fun k hk hkc => ?_⟩
  by_cases e : k = n
  · subst e
    have := hb hkc
    by_cases q : eI rows p r * eI rows k c < eI rows k r * eI rows p c
    · exact .inl q
    · right
      exact ⟨by omega, by omega⟩
  · exact h.least k (by omega) hkc
end Y
end Mir

/-! Mir: all rows anew; the rows to begin with. -/
namespace Mir
namespace Y
open PySem PySem.Spec PyProof.Rows L2 Mir
/-- a loop over a source that is read as it stands -/
theorem loop_src' {src : Src} {g : GM} {body : SM} {ds : List D} (I : Nat → Env' → Mem → Prop) (B : Env' → Mem → Prop) (Rt : D → Mem → Prop) (hs : ∀ k η m, k ≤ ds.length → I k η m → src k m = some ds[k]?)
    (h : ∀ k d η m, ds[k]? = some d → I k η m → Tri (g d η m) (fun η1 m1 => TriQ (body η1 m1) (I (k + 1)) B (I (k + 1)) Rt)) (hB : ∀ η m, I ds.length η m → B η m) :
    ∀ (f k : Nat) (η : Env') (m : Mem), f + k = ds.length → I k η m → TriS (mLoop src g body f k η m) B Rt
  | 0, k, η, m, hk, hI => by
    unfold mLoop
    rw [hs k η m (by omega) hI, List.getElem?_eq_none (by omega)]
    have : k = ds.length := by omega
    subst this
    exact hB η m hI
  | f + 1, k, η, m, hk, hI => by
    have hd : ds[k]? = some ds[k] := List.getElem?_eq_getElem (by omega)
    have h1 := h k ds[k] η m hd hI
    have ih := fun η2 m2 q => loop_src' I B Rt hs h hB f (k + 1) η2 m2 (by omega) q
    unfold mLoop
    rw [hs k η m (by omega) hI, hd]
    simp only
    cases hg : g ds[k] η m with
    | ok η1 m1 =>
      rw [hg] at h1
      simp only [tri_ok, toS_ok] at h1 ⊢
      cases hb : body η1 m1 with
      | nxt η2 m2 => rw [hb] at h1; exact ih η2 m2 h1
      | cnt η2 m2 => rw [hb] at h1; exact ih η2 m2 h1
      | brk η2 m2 => rw [hb] at h1; exact h1
      | ret d m2 => rw [hb] at h1; exact h1
      | exc x m2 => rw [hb] at h1; exact h1.elim
      | stk => rw [hb] at h1; exact h1.elim
    | exc x m1 => rw [hg] at h1; exact h1.elim
    | stk => rw [hg] at h1; exact h1.elim
theorem loop_src {src : Src} {g : GM} {body : SM} {ds : List D} {n : Nat} {η : Env'} {m : Mem} {B : Env' → Mem → Prop} {Rt : D → Mem → Prop} (I : Nat → Env' → Mem → Prop) (hn : n = ds.length) (hs : ∀ k η m, k ≤ ds.length → I k η m → src k m = some ds[k]?) (h0 : I 0 η m)
    (h : ∀ k d η m, ds[k]? = some d → I k η m → Tri (g d η m) (fun η1 m1 => TriQ (body η1 m1) (I (k + 1)) B (I (k + 1)) Rt)) (hB : ∀ η m, I ds.length η m → B η m) : TriS (mLoop src g body n 0 η m) B Rt := by
  subst hn
  exact loop_src' I B Rt hs h hB ds.length 0 η m (by omega) h0
/-- one row anew -/
def pivR (own : List Int) (by' take u : Int) (row : List Int) : List Int := (row.zip own).map fun p => (p.1 * by' - take * p.2).fdiv u
def pivL (rows : List (List Int)) (p c : Nat) (u : Int) : List (List Int) := rows.zipIdx.map fun x => if x.2 = p then x.1 else pivR (ro rows p) (eI rows p c) (en x.1 c) u x.1
end Y
end Mir

/-! Mir: the rows to begin with. -/
namespace Mir
namespace Y
open PySem PySem.Spec PyProof.Rows L2 Mir
/-- columns: where each lies, and its numbers -/
abbrev Cols := List (Nat × List Int)
structure ColsIn (m : Mem) (cs : Cols) (n : Nat) : Prop where
  at' : ∀ p ∈ cs, m[p.1]? = some (.lst (p.2.map .int))
  len : ∀ p ∈ cs, p.2.length = n
theorem ColsIn.kp {m m' : Mem} {cs : Cols} {n : Nat} (h : ColsIn m cs n) (k : Kp m m') : ColsIn m' cs n := ⟨fun p hp => k.get (h.at' p hp), h.len⟩
def sgI (x : Int) : Int := if 0 ≤ x then 1 else -1
theorem sgI_abs (x : Int) : (sgI x).natAbs = 1 := by unfold sgI; split <;> rfl
def begR (cs : Cols) (due : List Int) (i : Nat) : List Int := cs.map (fun p => sgI (en due i) * en p.2 i) ++ ((List.range due.length).map fun k => if i = k then (1 : Int) else 0) ++ [sgI (en due i) * en due i]
def begS (cs : Cols) (due : List Int) (c : Nat) : Int := 0 - ((List.range due.length).map fun i => en (begR cs due i) c).sum
def begN (cs : Cols) (due : List Int) : List Int := (List.range cs.length).map (begS cs due) ++ List.replicate due.length 0 ++ [begS cs due (cs.length + due.length)]
def begL (cs : Cols) (due : List Int) : List (List Int) := (List.range due.length).map (begR cs due) ++ [begN cs due]
end Y
end Mir

/-! Mir: the rows to begin with are a system; chains; bounds. -/
namespace Mir
namespace Y
open PySem PySem.Spec PyProof.Rows L2 Mir
theorem en_app_l {xs ys : List Int} {c : Nat} (h : c < xs.length) : en (xs ++ ys) c = en xs c := by
  unfold en
  rw [List.getD_eq_getElem?_getD, List.getD_eq_getElem?_getD, List.getElem?_append_left h]
theorem en_app_r {xs ys : List Int} {c : Nat} (h : xs.length ≤ c) : en (xs ++ ys) c = en ys (c - xs.length) := by
  unfold en
  rw [List.getD_eq_getElem?_getD, List.getD_eq_getElem?_getD, List.getElem?_append_right h]
theorem en_map {α : Type} {f : α → Int} {xs : List α} {c : Nat} {x : α} (h : xs[c]? = some x) : en (xs.map f) c = f x := by
  unfold en
  rw [List.getD_eq_getElem?_getD, List.getElem?_map, h]; rfl
theorem en_range {f : Nat → Int} {n c : Nat} (h : c < n) : en ((List.range n).map f) c = f c := en_map (List.getElem?_range h)
theorem sum_sm (f : Nat → Int) : ∀ n : Nat, ((List.range n).map f).sum = Sx.sm n f
  | 0 => rfl
  | n + 1 => by
    rw [List.range_succ, List.map_append, List.sum_append, sum_sm f n]
    simp [Sx.sm]
/-- a column's numbers -/
def cAt (cs : Cols) (j : Nat) : List Int := (cs.getD j (0, [])).2
theorem begN_col {cs : Cols} {due : List Int} {j : Nat} (h : j < cs.length) : en (begN cs due) j = begS cs due j := by
  unfold begN
  rw [List.append_assoc, en_app_l (by simpa using h), en_range h]
theorem begN_own {cs : Cols} {due : List Int} {k : Nat} (h : k < due.length) : en (begN cs due) (cs.length + k) = 0 := by
  unfold begN
  rw [List.append_assoc, en_app_r (by simp), List.length_map, List.length_range, Nat.add_sub_cancel_left, en_app_l (by simpa using h)]
  unfold en
  rw [List.getD_eq_getElem?_getD, List.getElem?_replicate, if_pos h]; rfl
theorem begN_due {cs : Cols} {due : List Int} : en (begN cs due) (cs.length + due.length) = begS cs due (cs.length + due.length) := by
  unfold begN
  rw [en_app_r (by simp), List.length_append, List.length_map, List.length_range, List.length_replicate, Nat.sub_self]
  rfl
def begM (cs : Cols) (due : List Int) : Sx.Vs := fun i c => eI (begL cs due) i c
theorem begM_lt {cs : Cols} {due : List Int} {i : Nat} (h : i < due.length) (c : Nat) : begM cs due i c = en (begR cs due i) c := by
  unfold begM eI ro begL
  rw [List.getD_eq_getElem?_getD, List.getElem?_append_left (by simpa using h), List.getElem?_map, List.getElem?_range h]; rfl
theorem begM_n {cs : Cols} {due : List Int} (c : Nat) : begM cs due due.length c = en (begN cs due) c := by
  unfold begM eI ro begL
  rw [List.getD_eq_getElem?_getD, List.getElem?_append_right (by simp), List.length_map, List.length_range, Nat.sub_self]; rfl
theorem begS_sm {cs : Cols} {due : List Int} (c : Nat) : begS cs due c = - Sx.sm due.length fun i => begM cs due i c := by
  unfold begS
  rw [sum_sm, Sx.sm_congr (g := fun i => begM cs due i c) (fun i hi => (begM_lt hi c).symm)]
  omega
/-! ### bounds -/
structure Lit (cs : Cols) (due : List Int) : Prop where
  col : ∀ p ∈ cs, ∀ x ∈ p.2, x.natAbs ≤ 2 ^ 20
  du : ∀ x ∈ due, x.natAbs ≤ 2 ^ 20
  few : due.length ≤ 30
theorem en_lit {xs : List Int} {b : Nat} (h : ∀ x ∈ xs, x.natAbs ≤ b) (c : Nat) : (en xs c).natAbs ≤ b := by
  unfold en
  rw [List.getD_eq_getElem?_getD]
  cases hx : xs[c]? with
  | none => exact Nat.zero_le _
  | some x => exact h x (List.mem_of_getElem? hx)
theorem begR_lit {cs : Cols} {due : List Int} (h : Lit cs due) (i c : Nat) : (en (begR cs due i) c).natAbs ≤ 2 ^ 20 := by
  refine en_lit (fun x hx => ?_) c
  unfold begR at hx
  rcases List.mem_append.mp hx with hx | hx
  · rcases List.mem_append.mp hx with hx | hx
    · obtain ⟨p, hp, rfl⟩ := List.mem_map.mp hx
      rw [Int.natAbs_mul, sgI_abs, Nat.one_mul]
      exact en_lit (h.col p hp) i
    · obtain ⟨k, _, rfl⟩ := List.mem_map.mp hx
      split
      · decide
      · exact Nat.zero_le _
  · rw [List.mem_singleton.mp hx, Int.natAbs_mul, sgI_abs, Nat.one_mul]
    exact en_lit h.du i
theorem begM_lit {cs : Cols} {due : List Int} (h : Lit cs due) {i c : Nat} (hi : i < due.length + 1) (hc : c < cs.length + due.length + 1) : (begM cs due i c).natAbs ≤ 2 ^ 25 := by
  by_cases e : i < due.length
  · rw [begM_lt e]
    exact Nat.le_trans (begR_lit h i c) (by decide)
  · have : i = due.length := by omega
    subst this
    have hs : (Sx.sm due.length fun i => begM cs due i c).natAbs ≤ 2 ^ 25 := by
      have h1 := Sx.sm_abs (fun i => begM cs due i c) due.length
      have h2 := Sx.sm_le (n := due.length) (f := fun i => ((begM cs due i c).natAbs : Int)) (g := fun _ => ((2 ^ 20 : Nat) : Int)) (fun i hi => by
        rw [begM_lt hi]
        exact Int.ofNat_le.mpr (begR_lit h i c))
      rw [Sx.sm_const] at h2
      have h3 : ((due.length : Nat) : Int) * ((2 ^ 20 : Nat) : Int) ≤ ((2 ^ 25 : Nat) : Int) := by
        have : due.length * 2 ^ 20 ≤ 2 ^ 25 := Nat.le_trans (Nat.mul_le_mul_right _ h.few) (by decide)
        rw [← Int.natCast_mul]
        exact Int.ofNat_le.mpr this
      omega
    rcases Nat.lt_or_ge c cs.length with hcl | hcl
    · rw [begM_n, begN_col hcl, begS_sm, Int.natAbs_neg]
      exact hs
    · by_cases hcd : c = cs.length + due.length
      · subst hcd
        rw [begM_n, begN_due, begS_sm, Int.natAbs_neg]
        exact hs
      · obtain ⟨k, rfl⟩ : ∃ k, c = cs.length + k := ⟨c - cs.length, by omega⟩
        rw [begM_n, begN_own (by omega)]
        exact Nat.zero_le _
theorem fac_le : ∀ {n : Nat}, n ≤ 32 → Sx.fac n ≤ 2 ^ (5 * n)
  | 0, _ => by decide
  | n + 1, h => by
    have ih := fac_le (n := n) (by omega)
    show (n + 1) * Sx.fac n ≤ _
    rw [show 5 * (n + 1) = 5 + 5 * n by omega, Nat.pow_add]
    exact Nat.mul_le_mul (by omega) ih
def SmB (x : Int) : Prop := x.natAbs ≤ 2 ^ 1045
theorem good_smB {cs : Cols} {due : List Int} (h : Lit cs due) {T : Sx.Tab} (g : Sx.Good (begM cs due) due.length (cs.length + due.length + 1) T) {i c : Nat} (hi : i < due.length + 1) (hc : c < cs.length + due.length + 1) : SmB (T.R i c) := by
  have h1 := g.bound (B := 2 ^ 25) (fun j c hj hc => begM_lit h hj hc) (by decide) hi hc
  have h2 := fac_le (n := due.length + 1) (by have := h.few; omega)
  refine Nat.le_trans h1 (Nat.le_trans (Nat.mul_le_mul_right _ h2) ?_)
  rw [← Nat.pow_mul, ← Nat.pow_add]
  exact Nat.pow_le_pow_right (by decide) (by have := h.few; omega)
theorem SmB.sm {x : Int} (h : SmB x) : Sm x := Nat.lt_of_le_of_lt h (Nat.pow_lt_pow_right (by decide) (by decide))
/-! ### chains -/
def tabL (rows : List (List Int)) (u : Int) (bs : List Nat) : Sx.Tab := ⟨eI rows, u, bt bs⟩
def Rchd (M : Sx.Vs) (n w t : Nat) (T : Sx.Tab) : Prop := ∃ f p q, Sx.Chn M n w t f p q ∧ f t = T
theorem Rchd.zero {M : Sx.Vs} {n w : Nat} {T : Sx.Tab} (o : Sx.Ok M n w T) : Rchd M n w 0 T := ⟨fun _ => T, fun _ => 0, fun _ => 0, ⟨o, fun i h => absurd h (by omega)⟩, rfl⟩
theorem Rchd.snoc {M : Sx.Vs} {n w t : Nat} {T T' : Sx.Tab} {a c : Nat} (h : Rchd M n w t T) (s : Sx.Stp n w T T' a c) : Rchd M n w (t + 1) T' := by
  obtain ⟨f, p, q, ch, rfl⟩ := h
  refine ⟨fun i => if i ≤ t then f i else T', fun i => if i < t then p i else a, fun i => if i < t then q i else c, ⟨?_, fun i hi => ?_⟩, ?_⟩
  · show Sx.Ok M n w (if 0 ≤ t then f 0 else T')
    rw [if_pos (Nat.zero_le _)]
    exact ch.ok
  · by_cases e : i < t
    · simp only [e, if_true, show i ≤ t by omega, show i + 1 ≤ t by omega]
      exact ch.st i e
    · have : i = t := by omega
      subst this
      simp only [Nat.le_refl, if_true, Nat.lt_irrefl, if_false, show ¬ i + 1 ≤ i by omega]
      exact s
  · show (if t + 1 ≤ t then f (t + 1) else T') = T'
    rw [if_neg (by omega)]
theorem Rchd.ok {M : Sx.Vs} {n w t : Nat} {T : Sx.Tab} (h : Rchd M n w t T) : Sx.Ok M n w T := by
  obtain ⟨f, p, q, ch, rfl⟩ := h
  exact ch.all t (Nat.le_refl _)
/-! ### a row anew, entry by entry -/
theorem pivL_shp {rows : List (List Int)} {n C p c : Nat} {u : Int} (sh : Shp rows n C) (hp : p < n) : Shp (pivL rows p c u) n C := by
  refine ⟨by simp [pivL, sh.len], fun r hr => ?_⟩
  obtain ⟨x, hx, rfl⟩ := List.mem_map.mp hr
  have hx' := List.mem_zipIdx_iff_getElem?.mp hx
  have := sh.wid _ (List.mem_of_getElem? hx')
  split
  · exact this
  · unfold pivR
    rw [List.length_map, List.length_zip, this, sh.row hp, Nat.min_self]
theorem pivL_at {rows : List (List Int)} {n C p c : Nat} {u : Int} (sh : Shp rows n C) (hp : p < n) {k j : Nat} (hk : k < n) (hj : j < C) : eI (pivL rows p c u) k j = if k = p then eI rows k j else (eI rows k j * eI rows p c - eI rows k c * eI rows p j).fdiv u := by
  have h1 : ro (pivL rows p c u) k = if k = p then ro rows k else pivR (ro rows p) (eI rows p c) (eI rows k c) u (ro rows k) := by
    have h2 := (pivL_shp (c := c) (u := u) sh hp).get hk
    unfold pivL at h2 ⊢
    rw [List.getElem?_map, List.getElem?_zipIdx, sh.get hk] at h2
    have := Option.some.inj h2
    simp at this
    exact this.symm
  unfold eI at *
  rw [h1]
  by_cases e : k = p
  · rw [if_pos e, if_pos e]
  · rw [if_neg e, if_neg e]
    unfold pivR
    have hz : ((ro rows k).zip (ro rows p))[j]? = some (en (ro rows k) j, en (ro rows p) j) := by
      rw [List.getElem?_zip_eq_some]
      exact ⟨en_get (by rw [sh.row hk]; exact hj), en_get (by rw [sh.row hp]; exact hj)⟩
    exact en_map hz
end Y
end Mir

/-! Mir: the search. -/
namespace Mir
namespace Y
open PySem PySem.Spec PyProof.Rows L2 Mir
/-- numbers from 0 on, over one number, by which the columns come to what is due -/
structure Fnds (cs : Cols) (due : List Int) (v : Nat → Int) (u : Int) : Prop where
  pos : 0 < u
  small : u.natAbs ≤ 2 ^ 1045
  nn : ∀ j, 0 ≤ v j
  vs : ∀ j, (v j).natAbs ≤ 2 ^ 1045
  sum : ∀ i, i < due.length → Sx.sm cs.length (fun j => v j * en (cAt cs j) i) = u * en due i
  fine : ∀ B : Int, 1 ≤ B → (∀ j, j < cs.length → Sx.sm due.length (fun i => ((en (cAt cs j) i).natAbs : Int)) ≤ B) → Sx.sm due.length (fun i => ((en due i).natAbs : Int)) ≤ B → (u.natAbs : Int) ≤ B ^ due.length ∧ ∀ j, ((v j).natAbs : Int) ≤ B ^ due.length
/-- weights that show that there are none -/
structure Nots (cs : Cols) (due : List Int) (y : List Int) : Prop where
  len : y.length = due.length
  small : ∀ x ∈ y, x.natAbs ≤ 2 ^ 1050
  fine : ∀ B : Int, 2 ≤ B → (∀ j, j < cs.length → Sx.sm due.length (fun i => ((en (cAt cs j) i).natAbs : Int)) ≤ B) → ∀ x ∈ y, (x.natAbs : Int) ≤ B ^ due.length
  col : ∀ j, j < cs.length → Sx.sm due.length (fun i => en y i * en (cAt cs j) i) ≤ 0
  due : 0 < Sx.sm due.length (fun i => en y i * en due i)
section
variable {m : Mem} {cs : Cols} {due : List Int} {P : D → Mem → Prop}
theorem allSm_of {rows : List (List Int)} {n C : Nat} (sh : Shp rows n C) (h : ∀ i c, i < n → c < C → Sm (eI rows i c)) : AllSm rows := fun r hr x hx => by
  obtain ⟨i, hi⟩ := List.mem_iff_getElem?.mp hr
  obtain ⟨c, hc⟩ := List.mem_iff_getElem?.mp hx
  have hin : i < n := by rw [← sh.len]; exact (List.getElem?_eq_some_iff.mp hi).1
  have hcl := (List.getElem?_eq_some_iff.mp hc).1
  have h1 := sh.get hin
  rw [hi] at h1
  have h1 := Option.some.inj h1
  have h2 := en_get hcl
  rw [hc] at h2
  have h2 := Option.some.inj h2
  rw [h2, h1]
  refine h i c hin ?_
  rw [← sh.wid r hr]
  exact hcl
/-- where the search stands -/
structure At (cs : Cols) (due : List Int) (rows : List (List Int)) (u : Int) (bs : List Nat) (t : Nat) : Prop where
  sh : Shp rows (due.length + 1) (cs.length + due.length + 1)
  bl : bs.length = due.length
  ch : Rchd (begM cs due) due.length cs.length t (tabL rows u bs)
theorem At.smB {rows : List (List Int)} {u : Int} {bs : List Nat} {t : Nat} (h : Lit cs due) (a : At cs due rows u bs t) {i c : Nat} (hi : i < due.length + 1) (hc : c < cs.length + due.length + 1) : SmB (eI rows i c) := good_smB h a.ch.ok.good hi hc
theorem At.sm {rows : List (List Int)} {u : Int} {bs : List Nat} {t : Nat} (h : Lit cs due) (a : At cs due rows u bs t) : AllSm rows := allSm_of a.sh fun i c hi hc => (a.smB h hi hc).sm
theorem At.u {rows : List (List Int)} {u : Int} {bs : List Nat} {t : Nat} (h : Lit cs due) (a : At cs due rows u bs t) : u.natAbs ≤ 2 ^ 1045 := by
  have hu : ((tabL rows u bs).u).natAbs ≤ 2 ^ 1045 := by
    obtain ⟨s, hs, hu⟩ := a.ch.ok.good.unit
    rw [hu, Int.natAbs_mul]
    have hs1 : s.natAbs = 1 := by
      have : s.natAbs * s.natAbs = 1 := by rw [← Int.natAbs_mul, hs]; rfl
      exact Nat.eq_one_of_mul_eq_one_left this
    rw [hs1, Nat.one_mul]
    have h2 := fac_le (n := due.length + 1) (by have := h.few; omega)
    refine Nat.le_trans (Sx.det_le (b := 2 ^ 25) fun i j hi hj => ?_) (Nat.le_trans (Nat.mul_le_mul_right _ h2) ?_)
    · unfold Sx.bv
      split
      · rename_i hl
        exact begM_lit h hj (a.ch.ok.good.bas i hl)
      · show (if j = due.length then (1 : Int) else 0).natAbs ≤ _
        split
        · decide
        · exact Nat.zero_le _
    · rw [← Nat.pow_mul, ← Nat.pow_add]
      exact Nat.pow_le_pow_right (by decide) (by have := h.few; omega)
  exact hu
/-- one step more -/
theorem At.step {rows : List (List Int)} {u : Int} {bs : List Nat} {t p c : Nat} (a : At cs due rows u bs t) (lv : Lv rows bs c (cs.length + due.length) due.length p) (hc : c < cs.length) (hneg : eI rows due.length c < 0) (hleast : ∀ c', c' < c → 0 ≤ eI rows due.length c') :
    At cs due (pivL rows p c u) (eI rows p c) (bs.set p c) (t + 1) := by
  have hp := lv.lt
  have hupos : 0 < u := a.ch.ok.good.pos
  refine ⟨pivL_shp a.sh (by omega), by rw [List.length_set]; exact a.bl, a.ch.snoc (a := p) (c := c) ⟨⟨hp, by omega, lv.pos, rfl, fun i hi => ?_, fun j hj => ?_, fun k j hk hkp hj => ?_⟩, hc, hneg, hleast, fun k hk hkc => lv.least k hk hkc⟩⟩
  · show (bs.set p c).getD i 0 = if i = p then c else bs.getD i 0
    rw [List.getD_eq_getElem?_getD, List.getD_eq_getElem?_getD, List.getElem?_set]
    by_cases e : p = i
    · subst e
      rw [if_pos rfl, if_pos (by rw [a.bl]; exact hp), if_pos rfl]; rfl
    · rw [if_neg e, if_neg (Ne.symm e)]
  · show eI (pivL rows p c u) p j = eI rows p j
    rw [pivL_at a.sh (by omega) (by omega) hj, if_pos rfl]
  · show eI (pivL rows p c u) k j = _
    rw [pivL_at a.sh (by omega) hk hj, if_neg hkp]
    exact Int.fdiv_eq_ediv_of_nonneg _ (by omega)
end
end Y
end Mir

/-! Mir: the search, walked. -/
namespace Mir
namespace Y
open PySem PySem.Spec PyProof.Rows L2 Mir
section
variable {m : Mem} {cs : Cols} {due : List Int} {P : D → Mem → Prop}
end
end Y
end Mir

/-! Mir: columns of ways and weights; the greatest number that divides all. -/
namespace Mir
namespace Y
open PySem PySem.Spec PyProof.Rows L2 Mir
theorem ways_eq : m_ways_of = m__law_ways := rfl
theorem ways_of_then {m : Mem} {c : Cha} {P : D → Mem → Prop} (hw : ∀ x ∈ c.r, x.length = c.n.length) (hn : c.r.length ≤ 900) (hd : c.n.length ≤ 900)
    (h : ∀ m' q, Kp m m' → m.length ≤ q → m'[q]? = some (.lst ((wayL c.r).map wD)) → P (.ref q) m') : Tri (m_ways_of [chaD c] m) P := by
  rw [ways_eq]
  exact ways_then hw hn hd h
end Y
end Mir

/-! Mir: the greatest number that divides all; mixtures. -/
namespace Mir
namespace Y
open PySem PySem.Spec PyProof.Rows L2 Mir
end Y
end Mir

/-! Mir: mixtures, plain. -/
namespace Mir
namespace Y
open PySem PySem.Spec PyProof.Rows L2 Mir
open Sx (sm)
def wy (r : Rows') (p : Nat) : Nat × Nat × Nat := (wayL r).getD p (0, 0, 0)
theorem wy_get {r : Rows'} {p : Nat} (h : p < (wayL r).length) : (wayL r)[p]? = some (wy r p) := by
  unfold wy
  rw [List.getD_eq_getElem?_getD, List.getElem?_eq_getElem h]; rfl
theorem wy_way {r : Rows'} {p : Nat} (h : p < (wayL r).length) : way r (wy r p).1 (wy r p).2.1 (wy r p).2.2 := wayL_mem.mp (List.mem_of_getElem? (wy_get h))
def nth (xs : List Nat) (i : Nat) : Nat := xs.getD i 0
/-- a way's goes; what comes less what leaves; what deeds come to -/
def net (r : Rows') (g : Nat → Int) (a : Nat) : Int := sm (wayL r).length fun p => g p * ((if a = (wy r p).2.2 then 1 else 0) - (if a = (wy r p).1 then 1 else 0))
def dsm (r : Rows') (g : Nat → Int) (k : Nat) : Int := sm (wayL r).length fun p => g p * (if k = (wy r p).2.1 then 1 else 0)
structure Mix (c : Cha) (rooms deeds : List Int) (so lo : List Nat) (free : Bool) (g wt : Nat → Int) (u : Int) : Prop where
  pos : 0 < u
  us : u.natAbs ≤ 2 ^ 1051
  gs : ∀ p, (g p).natAbs ≤ 2 ^ 1051
  ws : ∀ a, (wt a).natAbs ≤ 2 ^ 1051
  room : ∀ a, a < c.r.length → net c.r g a - wt a = u * en rooms a
  deed : ∀ k, k < c.n.length → k ∉ lo → dsm c.r g k = u * en deeds k
  deedL : ∀ k, k < c.n.length → dsm c.r g k ≤ u * en deeds k
  nnw : ∀ a, 0 ≤ wt a
  out : ∀ a, a ∉ so → wt a = 0
  one : sm c.r.length wt = u * (if 0 < so.length then 1 else 0)
  nng : free = false → ∀ p, 0 ≤ g p
  fine : sm c.r.length (fun a => ((en rooms a).natAbs : Int)) + sm c.n.length (fun k => ((en deeds k).natAbs : Int)) + (if 0 < so.length then 1 else 0) ≤ 3 → (u.natAbs : Int) ≤ 3 ^ (c.r.length + c.n.length + 1) ∧ (∀ p, ((g p).natAbs : Int) ≤ 3 ^ (c.r.length + c.n.length + 1)) ∧ ∀ a, ((wt a).natAbs : Int) ≤ 3 ^ (c.r.length + c.n.length + 1)
structure Eff (c : Cha) (rooms deeds : List Int) (so lo : List Nat) (free : Bool) (es : List Int) (Y Z : Nat → Int) (z b : Int) : Prop where
  pos : 1 ≤ b
  len : es.length = c.n.length
  eff : ∀ k, k < c.n.length → b * en es k = - Z k
  way : ∀ a k d, way c.r a k d → Y d - Y a + Z k ≤ 0
  wayF : free = true → ∀ a k d, Mir.way c.r a k d → Y d - Y a + Z k = 0
  some' : ∀ a ∈ so, z ≤ Y a
  loose : ∀ k ∈ lo, Z k ≤ 0
  due : 0 < sm c.r.length (fun a => Y a * en rooms a) + sm c.n.length (fun k => Z k * en deeds k) + z * (if 0 < so.length then 1 else 0)
  ys : ∀ a, (Y a).natAbs ≤ 2 ^ 1050
  fy : ∀ a, ((Y a).natAbs : Int) ≤ 3 ^ (c.r.length + c.n.length + 1)
  fz : ∀ k, ((Z k).natAbs : Int) ≤ 3 ^ (c.r.length + c.n.length + 1)
section
variable {c : Cha} {rooms deeds : List Int} {so lo : List Nat} {free : Bool}
end
end Y
end Mir

/-! Mir: mixtures, walked. -/
namespace Mir
namespace Y
open PySem PySem.Spec PyProof.Rows L2 Mir
end Y
end Mir

/-! Mir: fractions added up by the laws. -/
namespace Mir
namespace Y
open PySem PySem.Spec PyProof.Rows L2 Mir
/-- fractions over one number -/
structure Ov (U : Int) (q : Rat) : Prop where
  ex : ∃ n : Int, q = Rat.divInt n U ∧ n.natAbs ≤ 2 ^ 2201
structure OkU (U : Int) : Prop where
  pos : 0 < U
  small : U.natAbs ≤ 2 ^ 2201
theorem pow_mul_le {a b : Nat} (h : b ≤ 1000) : b * 2 ^ a ≤ 2 ^ (a + 10) := by
  rw [Nat.pow_add, Nat.mul_comm]
  exact Nat.mul_le_mul_left _ (Nat.le_trans h (by decide))
end Y
end Mir

/-! Mir: what comes to rooms and what deeds come to, by the laws. -/
namespace Mir
namespace Y
open PySem PySem.Spec PyProof.Rows L2 Mir
open Sx (sm)
section
variable {m : Mem} {c : Cha} {U : Int} {g : Nat → Int} {P : D → Mem → Prop}
end
end Y
end Mir

/-! Mir: fractions and heaps looked at by the laws; goes that part. -/
namespace Mir
namespace Y
open PySem PySem.Spec PyProof.Rows L2 Mir
open Sx (sm)
section
variable {m : Mem} {c : Cha} {U : Int} {g : Nat → Int} {P : D → Mem → Prop}
/-- goes that part two rooms -/
structure GoP (r : Rows') (w : Nat) (U : Int) (g : Nat → Int) (one other : Nat) : Prop where
  ne : one ≠ other
  room : ∀ a, a < r.length → net r g a = U * ((if a = other then 1 else 0) - (if a = one then 1 else 0))
  deed : ∀ k, k < w → dsm r g k = 0
end
end Y
end Mir

/-! Mir: rooms parted, deeds barred, by the program. -/
namespace Mir
namespace Y
open PySem PySem.Spec PyProof.Rows L2 Mir
open Sx (sm)
section
variable {m : Mem} {c : Cha} {P : D → Mem → Prop}
/-- what a heap that parts is -/
structure Prt (r : Rows') (w : Nat) (x : Hea) (L : Nat → Int) (one other : Nat) : Prop where
  t : x.t.length = w
  l : x.l.length = w
  stn : Stn r x L
  s0 : 0 ≤ x.s
  t0 : ∀ v ∈ x.t, 0 ≤ v
  l0 : ∀ v ∈ x.l, 0 ≤ v
  ne : cntH x L one ≠ cntH x L other
  few : ∀ a, a < r.length → (cntH x L a).natAbs ≤ 2 ^ 1053
  fine : ∀ a, a < r.length → ((cntH x L a).natAbs : Int) ≤ 4 * 3 ^ (r.length + w + 1)
/-- numbers over one that are no greater than the map's size tells -/
structure Fine (r : Rows') (w : Nat) (U : Int) (g : Nat → Int) : Prop where
  us : (U.natAbs : Int) ≤ 3 ^ (r.length + w + 1)
  gs : ∀ p, ((g p).natAbs : Int) ≤ 3 ^ (r.length + w + 1)
end
end Y
end Mir

/-! Mir: deeds barred. -/
namespace Mir
namespace Y
open PySem PySem.Spec PyProof.Rows L2 Mir
open Sx (sm)
section
variable {m : Mem} {c : Cha} {U : Int} {g wt : Nat → Int} {P : D → Mem → Prop}
/-- a heap that bars a deed at a room -/
structure Brd (r : Rows') (w : Nat) (x : Hea) (L : Nat → Int) (room k : Nat) : Prop where
  t : x.t.length = w
  l : x.l.length = w
  stn : Stn r x L
  s0 : 0 ≤ x.s
  t0 : ∀ v ∈ x.t, 0 ≤ v
  l0 : ∀ v ∈ x.l, 0 ≤ v
  lt : cntH x L room < tk x k
  few : ∀ a, a < r.length → (cntH x L a).natAbs ≤ 2 ^ 1053
  fine : ∀ a, a < r.length → ((cntH x L a).natAbs : Int) ≤ 4 * 3 ^ (r.length + w + 1)
/-- weights that are right, with goes -/
structure Wts (r : Rows') (U : Int) (g wt : Nat → Int) (begin' k : Nat) : Prop where
  nn : ∀ a, a < r.length → 0 ≤ wt a
  out : ∀ a, a < r.length → hasW r k a = false → wt a ≤ 0
  one : sm r.length wt = U
  room : ∀ a, a < r.length → net r g a = wt a - U * (if a = begin' then 1 else 0)
structure GoB (r : Rows') (w : Nat) (U : Int) (g wt : Nat → Int) (room k : Nat) : Prop where
  no : hasW r k room = false
  wts : Wts r U g wt room k
  deed : ∀ j, j < w → dsm r g j = 0
end
end Y
end Mir

/-! Mir: goes that bar, by the laws; rooms with deeds that have no way there. -/
namespace Mir
namespace Y
open PySem PySem.Spec PyProof.Rows L2 Mir
open Sx (sm)
theorem zipIdx_oAt (x : List (Option Nat)) : x.zipIdx = (List.range x.length).map fun k => (oAt x k, k) := by
  refine List.ext_getElem? fun i => ?_
  by_cases hi : i < x.length
  · rw [List.getElem?_zipIdx, oAt_get hi, List.getElem?_map, List.getElem?_range hi]
    simp
  · rw [List.getElem?_eq_none (by simp; omega), List.getElem?_eq_none (by simp; omega)]
section
variable {m : Mem} {c : Cha} {U : Int} {g wt : Nat → Int} {P : D → Mem → Prop}
end
end Y
end Mir

/-! Mir: small things that several laws draw. -/
namespace Mir
namespace Y
open PySem PySem.Spec PyProof.Rows L2 Mir
theorem ix4 {k a b c d : Nat} {m : Mem} (h : k < 4) : ∃ v : Nat, (v = a ∨ v = b ∨ v = c ∨ v = d) ∧ gIx (.lst [.int (a : Nat), .int (b : Nat), .int (c : Nat), .int (d : Nat)]) (.int (k : Nat)) m = .ok (.int (v : Nat)) m := by
  have : k = 0 ∨ k = 1 ∨ k = 2 ∨ k = 3 := by omega
  rcases this with rfl | rfl | rfl | rfl
  · exact ⟨a, .inl rfl, by simp⟩
  · exact ⟨b, .inr (.inl rfl), by simp⟩
  · exact ⟨c, .inr (.inr (.inl rfl)), by simp⟩
  · exact ⟨d, .inr (.inr (.inr rfl)), by simp⟩
theorem Nms.nodup {ns : List Str} (h : Nms ns) : ns.Nodup := by
  refine h.up.imp fun {a b} hab e => ?_
  subst e
  exact absurd hab (List.lt_irrefl _)
end Y
end Mir

/-! Mir: rows of deeds; steps told; rows shown. -/
namespace Mir
namespace Y
open PySem PySem.Spec PyProof.Rows L2 Mir
open Sx (sm)
theorem Pth.congr {r : Rows'} {w : Nat} (hwid : ∀ x ∈ r, x.length = w) {e e' : Nat → Int} (he : ∀ k, k < w → e k = e' k) {a : Nat} {s : Int} (p : Pth r e a s) : Pth r e' a s := by
  induction p with
  | zero => exact .zero
  | step _ hw ih =>
    rw [he _ (way_wid hwid hw).2]
    exact ih.step hw
theorem IsLow.congr {r : Rows'} {w : Nat} (hwid : ∀ x ∈ r, x.length = w) {e e' L : Nat → Int} (he : ∀ k, k < w → e k = e' k) (h : IsLow r e L) : IsLow r e' L :=
  ⟨h.z, fun a k b hw => by rw [← he _ (way_wid hwid hw).2]; exact h.w a k b hw, fun a ha => Pth.congr hwid he (h.p a ha)⟩
/-- a row of deeds, by their numbers -/
def rwD (c : Cha) (ks : List Nat) : D := sT (ks.map (nAt c.n))
section
variable {m : Mem} {c : Cha} {P : D → Mem → Prop}
def gon (w : Nat) (ks : List Nat) : List Int := (List.range w).map fun j => ((ks.count j : Nat) : Int)
theorem en_gon {w j : Nat} {ks : List Nat} (h : j < w) : en (gon w ks) j = (ks.count j : Nat) := en_range h
/-- weights and goes that show a step -/
structure Stp' (r : Rows') (w : Nat) (U : Int) (g wt : Nat → Int) (k : Nat) (gone : List Int) : Prop where
  wts : Wts r U g wt 0 k
  nn : ∀ p, p < (wayL r).length → 0 ≤ g p
  deed : ∀ j, j < w → dsm r g j = U * en gone j
/-- a heap that bears and bars behind so many of each deed -/
structure Bhd (r : Rows') (w : Nat) (x : Hea) (k : Nat) (gone : List Int) : Prop where
  t : x.t.length = w
  l : x.l.length = w
  s0 : 0 ≤ x.s
  t0 : ∀ v ∈ x.t, 0 ≤ v
  l0 : ∀ v ∈ x.l, 0 ≤ v
  bears : Bears r x
  lt : x.s + sm w (fun j => en (effL x) j * en gone j) < tk x k
/-- steps as they are told -/
structure Ste where
  g : Nat → Int
  wt : Nat → Int
  U : Int
structure OkSte (r : Rows') (w : Nat) (s : Ste) (k : Nat) (gone : List Int) : Prop where
  u : OkU s.U
  gb : ∀ p, (s.g p).natAbs ≤ 2 ^ 1051
  wb : ∀ p, (s.wt p).natAbs ≤ 2 ^ 1051
  st : Stp' r w s.U s.g s.wt k gone
end
end Y
end Mir

/-! Mir: steps looked at by the laws. -/
namespace Mir
namespace Y
open PySem PySem.Spec PyProof.Rows L2 Mir
open Sx (sm)
section
variable {m : Mem} {c : Cha} {P : D → Mem → Prop} {ks : List Nat}
structure BdSte (s : Ste) : Prop where
  u : OkU s.U
  gb : ∀ p, (s.g p).natAbs ≤ 2 ^ 2209
  wb : ∀ p, (s.wt p).natAbs ≤ 2 ^ 2209
/-- all steps are right -/
def AllSt (c : Cha) (ks : List Nat) (ss : List Ste) : Prop := ∀ at' s, ss[at']? = some s → Stp' c.r c.n.length s.U s.g s.wt (nth ks at') (gon c.n.length (ks.take at'))
end
end Y
end Mir

/-! Mir: rows drawn; what is told of rows, its form. -/
namespace Mir
namespace Y
open PySem PySem.Spec PyProof.Rows L2 Mir
theorem gIn_nlst {x : Nat} {ys : List Nat} {neg : Bool} {m : Mem} : gIn neg (.int (x : Nat)) (.lst (ys.map fun i => D.int (i : Nat))) m = .ok (.bl (decide (x ∈ ys) ^^ neg)) m := by
  have e : lstOf m (.lst (ys.map fun i => D.int (i : Nat))) = some (ys.map fun i => D.int (i : Nat)) := rfl
  show bR neg m (inOf m (.int (x : Nat)) _) = _
  unfold inOf
  simp only [e, flatIn, flatD, mapO_ints, inV_ints, bR]
section
variable {m : Mem} {c : Cha} {P : D → Mem → Prop} {i : Nat}
/-- the deeds that have a way from a room -/
def wysOf (c : Cha) (a : Nat) : List Nat := (List.range c.n.length).filter fun k => (oAt (rAt c.r a) k).isSome
theorem law_row_then {most : Nat} (hf : FlowAt m i) (ok : OkRows c.n.length c.r) (hn : c.r.length ≤ 900) (hd : c.n.length ≤ 900) (hm : most ≤ 900)
    (h : ∀ ks m', (∀ k ∈ ks, k < c.n.length) → ks.length ≤ most → Flo m m' i → P (rwD c ks) m') : Tri (m__law_row [.ref i, chaD c, .int (most : Nat)] m) P := by
  refine tri_fn rfl ?_
  have hil := hf.lt
  simp [b__law_row, b__law_row_s1, b__law_row_s2]
  have hfl0 : Flo m (m ++ [Cell.lst []]) i := (Flo.refl hf).push _
  have hs0 : (m ++ [Cell.lst []])[m.length]? = some (.lst []) := by simp
  generalize m ++ [Cell.lst []] = m0 at hfl0 hs0
  have hij : m.length ≠ i := by omega
  rw [show (most : Int) + 1 = ((most + 1 : Nat) : Int) by omega]
  refine pick_then hfl0.at (by omega) (by omega) fun turns m1 ht hflp => ?_
  have hfl1 := hfl0.trans hflp
  have hc1 := hflp.get hij hs0
  have el0 : ∀ m, bLen [sT c.n] m = .ok (.int (c.n.length : Nat)) m := fun m => by unfold sT; simp
  rw [rng_nat (by omega)]
  simp
  obtain ⟨Inv, hInv⟩ : ∃ I : Nat → Env' → Mem → Prop, ∀ k η m', I k η m' ↔ (Flo m m' i ∧ ∃ (ks : List Nat) (room : Nat) (e5 e6 e7 : Option D), η = [some (.ref i), some (chaD c), some (.int (most : Nat)), some (.ref m.length), some (.int (room : Nat)), e5, e6, e7, none] ∧ (∀ k ∈ ks, k < c.n.length) ∧ ks.length ≤ k ∧ room < c.r.length ∧ m'[m.length]? = some (.lst (ks.map fun k => D.str (nAt c.n k)))) := ⟨_, fun _ _ _ => Iff.rfl⟩
  refine for_inv Inv _ ((hInv _ _ _).mpr ⟨hfl1, [], 0, _, _, _, rfl, by simp, by simp, ok.pos, hc1⟩) (fun t d η m2 hdt hI => ?_) (fun η m2 hI => ?_)
  · obtain ⟨hfl2, ks, room, e5, e6, e7, rfl, hks, hkl, hroom, hc2⟩ := (hInv _ _ _).mp hI
    have htt := (rng_get hdt).1
    have hrl : (rAt c.r room).length = c.n.length := ok.wid _ (rAt_mem hroom)
    simp [b__law_row_1, gIx_cha1, gIx_rows hroom]
    simp only [rowD]
    simp [-List.length_map]
    rw [enumD_map]
    refine tri_filter (fun p : Option Nat × Nat => D.tup [.int (0 + (p.2 : Nat)), oD p.1]) (fun p => D.int ((p.2 : Nat) : Int)) (fun p => p.1.isSome) (rAt c.r room).zipIdx (fun p hp => ?_) (by simp; omega) ?_
    · refine ⟨[some (.ref i), some (chaD c), some (.int (most : Nat)), some (.ref m.length), some (.int (room : Nat)), some d, e6, some (.int ((p.2 : Nat) : Int)), some (oD p.1)], by simp [wipeE], by simp [oD_non], fun _ => by simp⟩
    have ew : ((rAt c.r room).zipIdx.filter fun p => p.1.isSome).map (fun p => D.int ((p.2 : Nat) : Int)) = (wysOf c room).map fun k => D.int ((k : Nat) : Int) := by
      unfold wysOf
      rw [zipIdx_oAt, List.filter_map, List.map_map, hrl]
      rfl
    rw [ew]
    have hwy : ∀ k ∈ wysOf c room, k < c.n.length ∧ ∃ b, oAt (rAt c.r room) k = some b ∧ b < c.r.length := fun k hk => by
      obtain ⟨h1, h2⟩ := List.mem_filter.mp hk
      have h1 := List.mem_range.mp h1
      refine ⟨h1, ?_⟩
      cases ho : oAt (rAt c.r room) k with
      | none => rw [ho] at h2; cases h2
      | some b => exact ⟨b, rfl, ok.rng room k b ⟨_, rAt_some hroom, by rw [oAt_get (by omega), ho]⟩⟩
    have hwl : (wysOf c room).length ≤ c.n.length := by
      have := List.length_filter_le (fun k => (oAt (rAt c.r room) k).isSome) (List.range c.n.length)
      rw [List.length_range] at this
      exact this
    simp [b__law_row_1s1, gIx_cha0, el0]
    have emax : (if (1 : Int) < (c.n.length : Int) then (c.n.length : Int) else 1) = ((max 1 c.n.length : Nat) : Int) := by split <;> omega
    rw [emax]
    refine pick_then hfl2.at (by omega) (by omega) fun k0 m3 hk0 hflq => ?_
    have hfl3 := hfl2.trans hflq
    -- behind the choice of the deed
    have rest : ∀ (k : Nat) (m4 : Mem), (0 < c.n.length → k < c.n.length) → Flo m m4 i → m4[m.length]? = some (.lst (ks.map fun k => D.str (nAt c.n k))) → TriQ (b__law_row_1s3 [some (.ref i), some (chaD c), some (.int (most : Nat)), some (.ref m.length), some (.int (room : Nat)), some d, some (.lst ((wysOf c room).map fun k => D.int ((k : Nat) : Int))), some (.int (k : Nat)), none] m4) (Inv (t + 1)) (fun _ _ => False) (fun _ _ => False) P := by
      intro k m4 hk hfl4 hc4
      simp [b__law_row_1s3, gIx_cha0, el0]
      by_cases hw0 : 0 < c.n.length
      · have hk := hk hw0
        have hjl := (List.getElem?_eq_some_iff.mp hc4).1
        have hap := append_ref (d := .str (nAt c.n k)) hc4 (by simp; omega)
        simp [hw0, b__law_row_0, isTy_ref hc4, gIx_cha0, gIx_sT (nAt_lt hk), hap]
        have hfl5 := hfl4.put (j := m.length) (Nat.le_refl _) hij (.lst ((ks.map fun k => D.str (nAt c.n k)) ++ [.str (nAt c.n k)]))
        have hc5 : (m4.set m.length (.lst ((ks.map fun k => D.str (nAt c.n k)) ++ [.str (nAt c.n k)])))[m.length]? = some (.lst ((ks ++ [k]).map fun k => D.str (nAt c.n k))) := by
          rw [List.getElem?_set_self hjl]; simp
        generalize m4.set m.length (.lst ((ks.map fun k => D.str (nAt c.n k)) ++ [.str (nAt c.n k)])) = m5 at hfl5 hc5
        simp [b__law_row_0s1, gIx_cha1, gIx_rows hroom, gIx_row (show k < (rAt c.r room).length by omega), gIn_nlst]
        have fin : ∀ room' : Nat, room' < c.r.length → Inv (t + 1) [some (.ref i), some (chaD c), some (.int (most : Nat)), some (.ref m.length), some (.int (room' : Nat)), some d, some (.lst ((wysOf c room).map fun k => D.int ((k : Nat) : Int))), some (.int (k : Nat)), none] m5 := fun room' hr' =>
          (hInv _ _ _).mpr ⟨hfl5, ks ++ [k], room', _, _, _, rfl, fun k' hk' => by
            rcases List.mem_append.mp hk' with h | h
            · exact hks k' h
            · rw [List.mem_singleton.mp h]; exact hk, by simp; omega, hr', hc5⟩
        by_cases hin : k ∈ wysOf c room
        · obtain ⟨_, b, hb, hbl⟩ := hwy k hin
          rw [hb]
          simp [hin, oD]
          by_cases hb0 : 0 < b
          · simp [hb0]; exact fin b hbl
          · have : b = 0 := by omega
            subst this
            simp
            exact fin 0 ok.pos
        · simp [hin]
          by_cases hb0 : 0 < room
          · simp [hb0]; exact fin room hroom
          · have : room = 0 := by omega
            subst this
            simp
            exact fin 0 ok.pos
      · have hw0' : c.n = [] := by
          cases hc : c.n with
          | nil => rfl
          | cons a l => rw [hc] at hw0; simp at hw0
        simp [hw0']
        exact (hInv _ _ _).mpr ⟨hfl4, ks, room, _, _, _, rfl, hks, by omega, hroom, hc4⟩
    have up : ∀ {r : RS} {N B C : Env' → Mem → Prop} {Q : D → Mem → Prop}, TriQ r N (fun _ _ => False) (fun _ _ => False) Q → TriQ r N B C Q := fun h => h.mono (fun _ _ z => z) (fun _ _ z => z.elim) (fun _ _ z => z.elim) (fun _ _ z => z)
    have hc3 := hflq.get hij hc2
    simp [b__law_row_1s2]
    by_cases hw1 : 0 < (wysOf c room).length
    · simp [hw1]
      refine pick_then hfl3.at (by decide) (by decide) fun z m4 hz hfl4 => ?_
      by_cases hz0 : 0 < z
      · simp [hz0]
        refine pick_then (n := ((wysOf c room).length : Int)) hfl4.at (by omega) (by omega) fun z2 m5 hz2 hfl5 => ?_
        have hz2l : z2 < (wysOf c room).length := by omega
        have gz : gIx (.lst ((wysOf c room).map fun k => D.int ((k : Nat) : Int))) (.int (z2 : Nat)) m5 = .ok (.int ((wysOf c room)[z2] : Nat)) m5 := gIx_lst (atI_nat (by rw [List.getElem?_map, List.getElem?_eq_getElem hz2l]; rfl))
        simp [gz]
        exact up (rest _ m5 (fun _ => (hwy _ (List.getElem_mem hz2l)).1) ((hfl3.trans hfl4).trans hfl5) (((hfl4.trans hfl5)).get hij hc3))
      · simp [hz0]
        exact up (rest k0 m4 (fun h => by omega) (hfl3.trans hfl4) (hfl4.get hij hc3))
    · simp [hw1]
      exact up (rest k0 m3 (fun h => by omega) hfl3 hc3)
  · obtain ⟨hfl2, ks, room, e5, e6, e7, rfl, hks, hkl, hroom, hc2⟩ := (hInv _ _ _).mp hI
    rw [rngD_length] at hkl
    simp [b__law_row_s3, tuple_ref hc2]
    have := h ks m2 hks (by omega) hfl2
    unfold rwD sT at this
    rw [List.map_map] at this
    exact this
end
end Y
end Mir

/-! Mir: goes looked at by the program. -/
namespace Mir
namespace Y
open PySem PySem.Spec PyProof.Rows L2 Mir
open Sx (sm)
section
variable {m : Mem} {c : Cha} {U : Int} {g wt : Nat → Int} {P : D → Mem → Prop}
end
end Y
end Mir

/-! Mir: goes, weights, steps, papers looked at by the program. -/
namespace Mir
namespace Y
open PySem PySem.Spec PyProof.Rows L2 Mir
open Sx (sm)
section
variable {m : Mem} {c : Cha} {U : Int} {g wt : Nat → Int} {P : D → Mem → Prop}
/-- weights alone -/
structure Wt0 (r : Rows') (U : Int) (wt : Nat → Int) (k : Nat) : Prop where
  nn : ∀ a, a < r.length → 0 ≤ wt a
  out : ∀ a, a < r.length → hasW r k a = false → wt a ≤ 0
  one : sm r.length wt = U
end
end Y
end Mir

/-! Mir: heaps that stand against goes: counts alike, enough; a yard's own heaps stand in its map. -/
namespace Mir
namespace Y
open PySem PySem.Spec PyProof.Rows L2 Mir
open Sx (sm)
/-! ### weak duality -/
theorem dual_sum {r : Rows'} {w : Nat} {e L g : Nat → Int} (ok : OkRows w r) (hL : IsLev r e L) : sm r.length (fun a => net r g a * L a) = sm w fun k => dsm r g k * e k := by
  have h1 : sm r.length (fun a => net r g a * L a) = sm (wayL r).length fun p => g p * (L (wy r p).2.2 - L (wy r p).1) := by
    unfold net
    rw [Sx.sm_congr (fun a _ => (Sx.sm_mulr (L a) _ (wayL r).length).symm), Sx.sm_comm (fun a p => g p * ((if a = (wy r p).2.2 then 1 else 0) - (if a = (wy r p).1 then 1 else 0)) * L a)]
    refine Sx.sm_congr fun p hp => ?_
    have hw := wy_way hp
    have h1 := (way_wid ok.wid hw).1
    have h2 := ok.rng _ _ _ hw
    rw [Sx.sm_congr (g := fun a => g p * ((if a = (wy r p).2.2 then 1 else 0) * L a - (if a = (wy r p).1 then 1 else 0) * L a)) (fun a _ => by rw [Int.mul_assoc, Int.sub_mul]), Sx.sm_mul, Sx.sm_sub, Sx.sm_at h2, Sx.sm_at h1, Int.one_mul, Int.one_mul]
  have h2 : (sm w fun k => dsm r g k * e k) = sm (wayL r).length fun p => g p * e (wy r p).2.1 := by
    unfold dsm
    rw [Sx.sm_congr (fun k _ => (Sx.sm_mulr (e k) _ (wayL r).length).symm), Sx.sm_comm (fun k p => g p * (if k = (wy r p).2.1 then 1 else 0) * e k)]
    refine Sx.sm_congr fun p hp => ?_
    have h3 := (way_wid ok.wid (wy_way hp)).2
    rw [Sx.sm_congr (g := fun k => g p * ((if k = (wy r p).2.1 then 1 else 0) * e k)) (fun a _ => by rw [Int.mul_assoc]), Sx.sm_mul, Sx.sm_at h3, Int.one_mul]
  rw [h1, h2]
  refine Sx.sm_congr fun p hp => ?_
  rw [hL.w _ _ _ (wy_way hp)]
  congr 1
  omega
theorem GoP.alike {r : Rows'} {w : Nat} {U : Int} {g : Nat → Int} {one other : Nat} {x : Hea} {L : Nat → Int} (ok : OkRows w r) (h : GoP r w U g one other) (hU : 0 < U) (h1 : one < r.length) (h2 : other < r.length) (st : Stn r x L) : cntH x L one = cntH x L other := by
  have h3 := dual_sum (g := g) ok st.lev
  rw [Sx.sm_zero' (n := w) (fun k hk => by rw [h.deed k hk, Int.zero_mul]), Sx.sm_congr (g := fun a => U * ((if a = other then 1 else 0) * L a - (if a = one then 1 else 0) * L a)) (fun a ha => by rw [h.room a ha, Int.mul_assoc, Int.sub_mul]), Sx.sm_mul, Sx.sm_sub, Sx.sm_at h2, Sx.sm_at h1] at h3
  have h4 : L other - L one = 0 := by
    rcases Int.mul_eq_zero.mp h3 with h | h <;> omega
  unfold cntH
  omega
theorem GoB.count {r : Rows'} {w : Nat} {U : Int} {g wt : Nat → Int} {room k : Nat} {x : Hea} {L : Nat → Int} (ok : OkRows w r) (h : GoB r w U g wt room k) (hr : room < r.length) (st : Stn r x L) : (sm r.length fun a => wt a * cntH x L a) = U * cntH x L room := by
  have h3 := dual_sum (g := g) ok st.lev
  rw [Sx.sm_zero' (n := w) (fun k hk => by rw [h.deed k hk, Int.zero_mul]), Sx.sm_congr (g := fun a => wt a * L a - U * ((if a = room then 1 else 0) * L a)) (fun a ha => by rw [h.wts.room a ha, Int.sub_mul, Int.mul_assoc]), Sx.sm_sub, Sx.sm_mul, Sx.sm_at hr, Int.one_mul] at h3
  unfold cntH
  rw [Sx.sm_congr (g := fun a => wt a * x.s + wt a * L a) (fun a _ => Int.mul_add _ _ _), Sx.sm_add, Sx.sm_mulr, h.wts.one, Int.mul_add]
  omega
theorem GoB.enough {r : Rows'} {w : Nat} {U : Int} {g wt : Nat → Int} {room k : Nat} {x : Hea} {L : Nat → Int} (ok : OkRows w r) (h : GoB r w U g wt room k) (hU : 0 < U) (hr : room < r.length) (st : Stn r x L) : tk x k ≤ cntH x L room := by
  have h1 := h.count ok hr st
  have h2 : 0 ≤ sm r.length fun a => wt a * (cntH x L a - tk x k) := Sx.sm_nonneg fun a ha => by
    have nn := h.wts.nn a ha
    cases hh : hasW r k a with
    | false =>
      have := h.wts.out a ha hh
      rw [show wt a = 0 by omega, Int.zero_mul]
      exact Int.le_refl _
    | true =>
      obtain ⟨b, hw⟩ := hasW_iff.mp hh
      exact Int.mul_nonneg nn (by have := st.en a k b hw; omega)
  rw [Sx.sm_congr (g := fun a => wt a * cntH x L a - wt a * tk x k) (fun a _ => Int.mul_sub _ _ _), Sx.sm_sub, Sx.sm_mulr, h1, h.wts.one, ← Int.mul_sub] at h2
  have := Int.nonneg_of_mul_nonneg_right h2 hU
  omega
/-! ### a yard's own heaps -/
structure Own (w : Nat) (r : Rows') : Prop where
  part : ∀ a b, a < r.length → b < r.length → a ≠ b → ∃ x L, Stn r x L ∧ cntH x L a ≠ cntH x L b
  bar : ∀ a k, a < r.length → k < w → hasW r k a = false → ∃ x L, Stn r x L ∧ cntH x L a < tk x k
theorem way_re' {w : Nat} {r : Rows'} (ok : OkRows w r) {ord : List Nat} (h : Ord r.length ord) {a k b : Nat} (hw : way (reR ord r) a k b) : way r (nth ord a) k (nth ord b) := by
  have ok' := ok.re h
  have hl : (reR ord r).length = ord.length := by unfold reR; simp
  have ha : a < ord.length := by rw [← hl]; exact (way_wid ok'.wid hw).1
  have hb : b < ord.length := by rw [← hl]; exact ok'.rng _ _ _ hw
  have ga : ord[a]? = some (nth ord a) := by unfold nth; rw [List.getD_eq_getElem?_getD, List.getElem?_eq_getElem ha]; rfl
  have gb : ord[b]? = some (nth ord b) := by unfold nth; rw [List.getD_eq_getElem?_getD, List.getElem?_eq_getElem hb]; rfl
  have hw' : way (reR ord r) (ord.idxOf (nth ord a)) k (ord.idxOf (nth ord b)) := by rw [h.idx ga, h.idx gb]; exact hw
  have := (way_re h (h.mem.mp (List.mem_of_getElem? gb))).mp hw'
  exact this.1 this.2
theorem nth_lt {ord : List Nat} {a : Nat} (ha : a < ord.length) : ord[a]? = some (nth ord a) := by unfold nth; rw [List.getD_eq_getElem?_getD, List.getElem?_eq_getElem ha]; rfl
theorem Stn.re {w : Nat} {r : Rows'} {x : Hea} {L : Nat → Int} (ok : OkRows w r) {ord : List Nat} (h : Ord r.length ord) (st : Stn r x L) : Stn (reR ord r) x fun a => L (nth ord a) := by
  have hl : (reR ord r).length = ord.length := by unfold reR; simp
  refine ⟨⟨?_, fun a k b hw => st.lev.w _ _ _ (way_re' ok h hw)⟩, fun a ha => ?_, fun a k b hw => st.en _ _ _ (way_re' ok h hw)⟩
  · have h0 := h.head
    have : nth ord 0 = 0 := by
      unfold nth
      rw [List.getD_eq_getElem?_getD, h0]; rfl
    show L (nth ord 0) = 0
    rw [this]
    exact st.lev.z
  · exact st.pos _ (h.mem.mp (List.mem_of_getElem? (nth_lt (by rw [← hl]; exact ha))))
theorem Own.re {w : Nat} {r : Rows'} (ok : OkRows w r) {ord : List Nat} (h : Ord r.length ord) (o : Own w r) : Own w (reR ord r) := by
  have hl : (reR ord r).length = ord.length := by unfold reR; simp
  refine ⟨fun a b ha hb hne => ?_, fun a k ha hk hno => ?_⟩
  · have ga := nth_lt (ord := ord) (a := a) (by omega)
    have gb := nth_lt (ord := ord) (a := b) (by omega)
    obtain ⟨x, L, st, h1⟩ := o.part (nth ord a) (nth ord b) (h.mem.mp (List.mem_of_getElem? ga)) (h.mem.mp (List.mem_of_getElem? gb)) (fun e => hne (by rw [← h.idx ga, ← h.idx gb, e]))
    exact ⟨x, _, st.re ok h, h1⟩
  · have ga := nth_lt (ord := ord) (a := a) (by omega)
    have hal := h.mem.mp (List.mem_of_getElem? ga)
    have hno' : hasW r k (nth ord a) = false := by
      cases hh : hasW r k (nth ord a) with
      | false => rfl
      | true =>
        obtain ⟨b, hw⟩ := hasW_iff.mp hh
        have hw' := (way_re h (ok.rng _ _ _ hw)).mpr ⟨fun _ => hw, hal⟩
        rw [h.idx ga] at hw'
        rw [hasW_iff.mpr ⟨_, hw'⟩] at hno
        cases hno
    obtain ⟨x, L, st, h1⟩ := o.bar (nth ord a) k hal hk hno'
    exact ⟨x, _, st.re ok h, h1⟩
/-! ### a yard's own heaps stand in its map -/
section
variable {hs : List Hea} {sts : List (List Int)} {rows : Rows'} {d : Nat}
theorem led_len {st : List Int} {k : Nat} (h : st.length = hs.length) : (ledL hs st k).length = hs.length := by unfold ledL; simp [h]
theorem led_at {st : List Int} {k i : Nat} {x : Hea} (h : st.length = hs.length) (hx : hs[i]? = some x) : (ledL hs st k).getD i 0 = st.getD i 0 - tk x k + lk x k := by
  have hi := (List.getElem?_eq_some_iff.mp hx).1
  unfold ledL
  rw [List.getD_eq_getElem?_getD, List.getElem?_map, List.getD_eq_getElem?_getD]
  have hz : (st.zip hs)[i]? = some (st[i], x) := List.getElem?_zip_eq_some.mpr ⟨List.getElem?_eq_getElem (by omega), hx⟩
  rw [hz, List.getElem?_eq_getElem (by omega : i < st.length)]
  rfl
theorem there_at {st : List Int} {k i : Nat} {x : Hea} (h : st.length = hs.length) (hx : hs[i]? = some x) (ht : thereB hs st k = true) : tk x k ≤ st.getD i 0 := by
  have hi := (List.getElem?_eq_some_iff.mp hx).1
  have hz : (st.zip hs)[i]? = some (st[i], x) := List.getElem?_zip_eq_some.mpr ⟨List.getElem?_eq_getElem (by omega), hx⟩
  unfold thereB at ht
  have := List.all_eq_true.mp ht _ (List.mem_of_getElem? hz)
  rw [List.getD_eq_getElem?_getD, List.getElem?_eq_getElem (by omega : i < st.length)]
  simpa using this
end
end Y
end Mir

/-! Mir: the laws' sums of fractions that are not in lowest terms. -/
namespace Mir
namespace Y
open PySem PySem.Spec PyProof.Rows L2 Mir
open Sx (sm)
end Y
end Mir

/-! Mir: woven. -/
namespace Mir
namespace Y
open PySem PySem.Spec PyProof.Rows L2 Mir
open Sx (sm)
/-- heaps as they are told -/
structure Told (r : Rows') (w : Nat) (x : Hea) (L : Nat → Int) : Prop where
  t : x.t.length = w
  l : x.l.length = w
  stn : Stn r x L
  s0 : 0 ≤ x.s
  t0 : ∀ v ∈ x.t, 0 ≤ v
  l0 : ∀ v ∈ x.l, 0 ≤ v
  few : ∀ a, a < r.length → (cntH x L a).natAbs ≤ 2 ^ 1053
  fine : ∀ a, a < r.length → ((cntH x L a).natAbs : Int) ≤ 4 * 3 ^ (r.length + w + 1)
theorem Prt.told {r : Rows'} {w : Nat} {x : Hea} {L : Nat → Int} {one other : Nat} (h : Prt r w x L one other) : Told r w x L := ⟨h.t, h.l, h.stn, h.s0, h.t0, h.l0, h.few, h.fine⟩
theorem Brd.told {r : Rows'} {w : Nat} {x : Hea} {L : Nat → Int} {room k : Nat} (h : Brd r w x L room k) : Told r w x L := ⟨h.t, h.l, h.stn, h.s0, h.t0, h.l0, h.few, h.fine⟩
/-- levels of a heap that stands, picked -/
noncomputable def levOf (r : Rows') (x : Hea) : Nat → Int := by
  classical
  exact if h : ∃ L, Stn r x L then h.choose else fun _ => 0
theorem levOf_stn {r : Rows'} {x : Hea} (h : Stands r x) : Stn r x (levOf r x) := by
  unfold levOf
  rw [dif_pos (show ∃ L, Stn r x L from h)]
  exact (show ∃ L, Stn r x L from h).choose_spec
section
variable {m : Mem} {c : Cha} {x : Hea} {P : D → Mem → Prop}
end
section
variable {m : Mem} {c : Cha} {P : D → Mem → Prop}
/-- heaps told for a map: those of pairs, those of deeds -/
structure Wov (r : Rows') (w : Nat) (xs : List Hea) : Prop where
  told : ∀ x ∈ xs, ∃ L, Told r w x L
  few : xs.length ≤ r.length * r.length + r.length * w
theorem Wov.st {r : Rows'} {w : Nat} {xs : List Hea} (h : Wov r w xs) {x : Hea} (hx : x ∈ xs) : Stands r x := by
  obtain ⟨L, hL⟩ := h.told x hx
  exact ⟨L, hL.stn⟩
def ParL (r : Rows') (xs : List Hea) (a b : Nat) : Prop := ∃ x ∈ xs, cntH x (levOf r x) a ≠ cntH x (levOf r x) b
def BarL (r : Rows') (xs : List Hea) (a k : Nat) : Prop := ∃ x ∈ xs, cntH x (levOf r x) a < tk x k
end
end Y
end Mir

/-! Mir: fractions otherwise, papers looked at. -/
namespace Mir
namespace Y
open PySem PySem.Spec PyProof.Rows L2 Mir
open Sx (sm)
/-- numbers over one number, bounded -/
structure FrB (B : Nat) (U : Int) (g : Nat → Int) : Prop where
  pos : 0 < U
  us : U.natAbs ≤ B
  gs : ∀ p, (g p).natAbs ≤ B
theorem six {k : Nat} {pk : Int} (h : (k : Int) < pk) (h6 : pk ≤ 6) : k = 0 ∨ k = 1 ∨ k = 2 ∨ k = 3 ∨ k = 4 ∨ k = 5 := by omega
theorem FrB.mono {B C : Nat} {U : Int} {g : Nat → Int} (h : FrB B U g) (hBC : B ≤ C) : FrB C U g := ⟨h.pos, Nat.le_trans h.us hBC, fun p => Nat.le_trans (h.gs p) hBC⟩
end Y
end Mir

/-! Mir: papers looked at. -/
namespace Mir
namespace Y
open PySem PySem.Spec PyProof.Rows L2 Mir
open Sx (sm)
theorem sm_bd {f : Nat → Int} {n k : Nat} {B : Nat} (h : ∀ i, (f i).natAbs ≤ B) (hn : n ≤ k) : (sm n f).natAbs ≤ k * B := by
  have h1 := Sx.sm_abs f n
  have h2 : sm n (fun i => ((f i).natAbs : Int)) ≤ sm n (fun _ => (B : Int)) := Sx.sm_le fun i _ => by have := h i; omega
  rw [Sx.sm_const] at h2
  have h3 : (n : Int) * (B : Int) = ((n * B : Nat) : Int) := by simp
  rw [h3] at h2
  have h4 : n * B ≤ k * B := Nat.mul_le_mul_right B hn
  omega
theorem GoB.us {r : Rows'} {w : Nat} {U : Int} {g wt : Nat → Int} {room k : Nat} (h : GoB r w U g wt room k) (hn : r.length ≤ 12) (hw : ∀ p, (wt p).natAbs ≤ 2 ^ 1051) : U.natAbs ≤ 2 ^ 1061 := by
  rw [← h.wts.one]
  refine Nat.le_trans (sm_bd hw hn) ?_
  exact pow_mul_le (by decide)
theorem GoP.us {r : Rows'} {w : Nat} {U : Int} {g : Nat → Int} {one other : Nat} (h : GoP r w U g one other) (h2 : other < r.length) (hw : (wayL r).length ≤ 144) (hg : ∀ p, (g p).natAbs ≤ 2 ^ 1051) : U.natAbs ≤ 2 ^ 1061 := by
  have h1 := h.room other h2
  rw [if_pos rfl, if_neg (fun e => h.ne e.symm), Int.sub_zero, Int.mul_one] at h1
  rw [← h1]
  unfold net
  refine Nat.le_trans (sm_bd (B := 2 ^ 1051) (fun i => ?_) hw) (pow_mul_le (by decide))
  rw [Int.natAbs_mul]
  refine Nat.le_trans (Nat.mul_le_mul (hg i) (show _ ≤ 1 by split <;> split <;> decide)) ?_
  rw [Nat.mul_one]
  exact Nat.le_refl _
inductive Pap where
  | alike (one other : Int) (g : Nat → Int) (U : Int)
  | opn (room : Int) (deed : Str) (wt g : Nat → Int) (U : Int)
section
variable {m : Mem} {c : Cha} {P : D → Mem → Prop}
end
end Y
end Mir

/-! Mir: steps looked at by the program. -/
namespace Mir
namespace Y
open PySem PySem.Spec PyProof.Rows L2 Mir
open Sx (sm)
section
variable {m : Mem} {c : Cha} {P : D → Mem → Prop} {ks : List Nat}
end
end Y
end Mir

/-! Mir: comprehensions over any source. -/
namespace Mir
namespace Y
open PySem PySem.Spec PyProof.Rows L2 Mir
end Y
end Mir

namespace Mir
namespace Y
open PySem PySem.Spec PyProof.Rows L2
open Sx (sm)
/-! ### rows that a heap does -/
/-- the count of a heap behind a row -/
def cntR (w : Nat) (x : Hea) (ks : List Nat) : Int := x.s + sm w fun j => en (effL x) j * en (gon w ks) j
/-- a heap does a row -/
def DoneR (w : Nat) (x : Hea) (ks : List Nat) : Prop := ∀ t, t < ks.length → tk x (nth ks t) ≤ cntR w x (ks.take t)
theorem cntR_nil (w : Nat) (x : Hea) : cntR w x [] = x.s := by
  unfold cntR
  rw [Sx.sm_zero' (fun j hj => by rw [en_gon hj]; simp)]
  omega
theorem cntR_snoc {w k : Nat} {x : Hea} (ht : x.t.length = w) (hl : x.l.length = w) (hk : k < w) (ks : List Nat) : cntR w x (ks ++ [k]) = cntR w x ks - tk x k + lk x k := by
  unfold cntR
  have e : (sm w fun j => en (effL x) j * en (gon w (ks ++ [k])) j) = (sm w fun j => en (effL x) j * en (gon w ks) j) + sm w fun j => (if j = k then 1 else 0) * en (effL x) j := by
    rw [← Sx.sm_add]
    refine Sx.sm_congr fun j hj => ?_
    rw [en_gon hj, en_gon hj, List.count_append, List.count_singleton]
    by_cases h : j = k
    · subst h
      simp
      rw [Int.mul_add]
      omega
    · have : (k == j) = false := by simpa using fun e => h e.symm
      simp [h, this]
  have e2 : en (effL x) k = lk x k - tk x k := effL_at ht hl hk
  rw [e, Sx.sm_at hk, e2]
  omega
/-- weak duality for heaps that bear -/
theorem dual_le {r : Rows'} {w : Nat} {e L g : Nat → Int} (ok : OkRows w r) (hL : IsLow r e L) (hg : ∀ p, p < (wayL r).length → 0 ≤ g p) : sm r.length (fun a => net r g a * L a) ≤ sm w fun k => dsm r g k * e k := by
  have h1 : sm r.length (fun a => net r g a * L a) = sm (wayL r).length fun p => g p * (L (wy r p).2.2 - L (wy r p).1) := by
    unfold net
    rw [Sx.sm_congr (fun a _ => (Sx.sm_mulr (L a) _ (wayL r).length).symm), Sx.sm_comm (fun a p => g p * ((if a = (wy r p).2.2 then 1 else 0) - (if a = (wy r p).1 then 1 else 0)) * L a)]
    refine Sx.sm_congr fun p hp => ?_
    have hw := wy_way hp
    have h1 := (way_wid ok.wid hw).1
    have h2 := ok.rng _ _ _ hw
    rw [Sx.sm_congr (g := fun a => g p * ((if a = (wy r p).2.2 then 1 else 0) * L a - (if a = (wy r p).1 then 1 else 0) * L a)) (fun a _ => by rw [Int.mul_assoc, Int.sub_mul]), Sx.sm_mul, Sx.sm_sub, Sx.sm_at h2, Sx.sm_at h1, Int.one_mul, Int.one_mul]
  have h2 : (sm w fun k => dsm r g k * e k) = sm (wayL r).length fun p => g p * e (wy r p).2.1 := by
    unfold dsm
    rw [Sx.sm_congr (fun k _ => (Sx.sm_mulr (e k) _ (wayL r).length).symm), Sx.sm_comm (fun k p => g p * (if k = (wy r p).2.1 then 1 else 0) * e k)]
    refine Sx.sm_congr fun p hp => ?_
    have h3 := (way_wid ok.wid (wy_way hp)).2
    rw [Sx.sm_congr (g := fun k => g p * ((if k = (wy r p).2.1 then 1 else 0) * e k)) (fun a _ => by rw [Int.mul_assoc]), Sx.sm_mul, Sx.sm_at h3, Int.one_mul]
  rw [h1, h2]
  refine Sx.sm_le fun p hp => ?_
  have := hL.w _ _ _ (wy_way hp)
  exact Int.mul_le_mul_of_nonneg_left (by omega) (hg p hp)
/-- a step that is shown: each heap that bears has what the deed takes -/
theorem Stp'.enough {r : Rows'} {w : Nat} {U : Int} {g wt : Nat → Int} {k : Nat} {ks : List Nat} {x : Hea} (ok : OkRows w r) (h : Stp' r w U g wt k (gon w ks)) (hU : 0 < U) (hb : Bears r x) : tk x k ≤ cntR w x ks := by
  obtain ⟨L, hL, hen⟩ := hb
  have h0 : 0 < r.length := ok.pos
  have h3 := dual_le (g := g) ok hL h.nn
  have e1 : (sm w fun k => dsm r g k * eAt (effL x) k) = U * sm w fun j => en (effL x) j * en (gon w ks) j := by
    rw [← Sx.sm_mul]
    refine Sx.sm_congr fun j hj => ?_
    rw [h.deed j hj, Int.mul_assoc, Int.mul_comm (en (gon w ks) j)]
    rfl
  rw [e1, Sx.sm_congr (g := fun a => wt a * L a - U * ((if a = 0 then 1 else 0) * L a)) (fun a ha => by rw [h.wts.room a ha, Int.sub_mul, Int.mul_assoc]), Sx.sm_sub, Sx.sm_mul, Sx.sm_at h0, Int.one_mul, hL.z] at h3
  have h2 : 0 ≤ sm r.length fun a => wt a * (x.s + L a - tk x k) := Sx.sm_nonneg fun a ha => by
    have nn := h.wts.nn a ha
    cases hh : hasW r k a with
    | false =>
      have := h.wts.out a ha hh
      rw [show wt a = 0 by omega, Int.zero_mul]
      exact Int.le_refl _
    | true =>
      obtain ⟨b, hw⟩ := hasW_iff.mp hh
      exact Int.mul_nonneg nn (by have := hen a k b hw; simp only at this; omega)
  have e2 : (sm r.length fun a => wt a * (x.s + L a - tk x k)) = (sm r.length fun a => wt a * L a) + U * (x.s - tk x k) := by
    rw [Sx.sm_congr (g := fun a => wt a * L a + wt a * (x.s - tk x k)) (fun a _ => by rw [← Int.mul_add]; congr 1; omega), Sx.sm_add, Sx.sm_mulr, h.wts.one]
  rw [e2] at h2
  have h4 : 0 ≤ U * (cntR w x ks - tk x k) := by
    unfold cntR
    rw [show x.s + (sm w fun j => en (effL x) j * en (gon w ks) j) - tk x k = (sm w fun j => en (effL x) j * en (gon w ks) j) + (x.s - tk x k) by omega, Int.mul_add]
    omega
  have := Int.nonneg_of_mul_nonneg_right h4 hU
  omega
/-- a row of a map leads to a room -/
inductive Pat (r : Rows') : List Nat → Nat → Prop
  | nil : Pat r [] 0
  | snoc {ks : List Nat} {a k b : Nat} : Pat r ks a → way r a k b → Pat r (ks ++ [k]) b
theorem Pat.deeds {r : Rows'} {w : Nat} (ok : OkRows w r) {ks : List Nat} {a : Nat} (h : Pat r ks a) : a < r.length ∧ ∀ k ∈ ks, k < w := by
  induction h with
  | nil => exact ⟨ok.pos, by simp⟩
  | snoc _ hw ih =>
    refine ⟨ok.rng _ _ _ hw, fun k hk => ?_⟩
    rcases List.mem_append.mp hk with h | h
    · exact ih.2 k h
    · rw [List.mem_singleton.mp h]; exact (way_wid ok.wid hw).2
theorem nth_app {ks : List Nat} {k t : Nat} (h : t < ks.length) : nth (ks ++ [k]) t = nth ks t := by
  unfold nth
  rw [List.getD_eq_getElem?_getD, List.getD_eq_getElem?_getD, List.getElem?_append_left h]
theorem nth_end {ks : List Nat} {k : Nat} : nth (ks ++ [k]) ks.length = k := by
  unfold nth
  rw [List.getD_eq_getElem?_getD]
  simp
theorem done_snoc {w k : Nat} {x : Hea} {ks : List Nat} (h : DoneR w x ks) (h2 : tk x k ≤ cntR w x ks) : DoneR w x (ks ++ [k]) := fun t ht => by
  rw [List.length_append, List.length_singleton] at ht
  by_cases q : t < ks.length
  · rw [nth_app q, List.take_append_of_le_length (by omega)]
    exact h t q
  · rw [show t = ks.length by omega, nth_end, List.take_append_of_le_length (Nat.le_refl _), List.take_length]
    exact h2
theorem Pat.done {r : Rows'} {w : Nat} {x : Hea} (ok : OkRows w r) (ht : x.t.length = w) (hl : x.l.length = w) (hb : Bears r x) {ks : List Nat} {a : Nat} (h : Pat r ks a) : DoneR w x ks := by
  obtain ⟨L, hL, hen⟩ := hb
  have key : x.s + L a ≤ cntR w x ks ∧ DoneR w x ks := by
    induction h with
    | nil => exact ⟨by rw [cntR_nil, hL.z]; omega, fun t h => by cases h⟩
    | @snoc ks a k b _ hw ih =>
      have hk := (way_wid ok.wid hw).2
      have h1 := hL.w _ _ _ hw
      have h2 := hen _ _ _ hw
      rw [effL_at ht hl hk] at h1
      simp only at h2
      refine ⟨by rw [cntR_snoc ht hl hk]; omega, done_snoc ih.2 (by omega)⟩
  exact key.2
theorem AllSt.done {c : Cha} {ks : List Nat} {ss : List Ste} {x : Hea} (ok : OkRows c.n.length c.r) (h : AllSt c ks ss) (hU : ∀ s ∈ ss, 0 < s.U) (hl : ss.length = ks.length) (hb : Bears c.r x) : DoneR c.n.length x ks := fun t ht => by
  have hs := List.getElem?_eq_getElem (l := ss) (i := t) (by omega)
  exact (h t _ hs).enough ok (hU _ (List.mem_of_getElem? hs)) hb
end Y
end Mir

namespace Mir
namespace Y
open PySem PySem.Spec PyProof.Rows L2
open Sx (sm)
/-! ### a map with a way more -/
def ins (g : Nat → Int) (n : Nat) : Nat → Int := fun p => if p < n then g p else if p = n then 0 else g (p - 1)
section
variable {r : Rows'} {w a0 k0 b0 : Nat}
/-- a way more: where it lies, and that goes with a nought there come to the same -/
structure Wdr (r r' : Rows') (w n : Nat) : Prop where
  len : r'.length = r.length
  lw : (wayL r').length = (wayL r).length + 1
  hn : n ≤ (wayL r).length
  ok : OkRows w r'
  up : ∀ a k b, way r a k b → way r' a k b
  no : ∀ a k, hasW r' k a = false → hasW r k a = false
  net : ∀ g a, Y.net r' (ins g n) a = Y.net r g a
  dsm : ∀ g k, Y.dsm r' (ins g n) k = Y.dsm r g k
end
section
variable {r r' : Rows'} {w n : Nat} {U : Int} {g wt : Nat → Int}
end
end Y
end Mir

/-! Mir: the walk of a yard, to the sign. -/
namespace Mir
namespace Y
open PySem PySem.Spec PyProof.Rows L2 Mir
/-! ### the walk -/
def stepS (hs : List Hea) (st : List Int) (sts : List (List Int)) (k : Nat) : List (List Int) × Option Nat :=
  if thereB hs st k = true then (if ledL hs st k ∈ sts then (sts, some (sts.idxOf (ledL hs st k))) else (sts ++ [ledL hs st k], some sts.length)) else (sts, none)
def rowS (hs : List Hea) (st : List Int) : List Nat → List (List Int) → List (List Int) × List (Option Nat)
  | [], sts => (sts, [])
  | k :: ks, sts => ((rowS hs st ks (stepS hs st sts k).1).1, (stepS hs st sts k).2 :: (rowS hs st ks (stepS hs st sts k).1).2)
def stA (sts : List (List Int)) (a : Nat) : List Int := sts.getD a []
def walkS (hs : List Hea) (w most : Nat) : Nat → List (List Int) → Rows' → List (List Int) × Rows'
  | 0, sts, rows => (sts, rows)
  | f + 1, sts, rows => if rows.length < sts.length ∧ sts.length ≤ most then walkS hs w most f (rowS hs (stA sts rows.length) (List.range w) sts).1 (rows ++ [(rowS hs (stA sts rows.length) (List.range w) sts).2]) else (sts, rows)
/-- the walk of a yard, up to so many stands -/
def walkY (y : Yar) (most : Nat) : List (List Int) × Rows' := walkS y.h y.d.length most most [y.h.map Hea.s] []
theorem walkS_end {hs : List Hea} {w most : Nat} (f : Nat) {sts : List (List Int)} {rows : Rows'} (h : ¬ (rows.length < sts.length ∧ sts.length ≤ most)) : walkS hs w most f sts rows = (sts, rows) := by
  cases f with
  | zero => rfl
  | succ f => unfold walkS; rw [if_neg h]
/-- rows in cells of their own -/
def RowC (m : Mem) (rs : List D) (rows : Rows') : Prop := rs.length = rows.length ∧ ∀ (a : Nat) x, rows[a]? = some x → ∃ q, rs[a]? = some (.ref q) ∧ m[q]? = some (.lst (x.map oD))
theorem RowC.kp {m m' : Mem} {rs : List D} {rows : Rows'} (h : RowC m rs rows) (k : Kp m m') : RowC m' rs rows := ⟨h.1, fun a x e => by
  obtain ⟨q, h1, h2⟩ := h.2 a x e
  exact ⟨q, h1, k.get h2⟩⟩
theorem RowC.app {m : Mem} {rs : List D} {rows : Rows'} {x : List (Option Nat)} {q : Nat} (h : RowC m rs rows) (hq : m[q]? = some (.lst (x.map oD))) : RowC m (rs ++ [.ref q]) (rows ++ [x]) := by
  refine ⟨by simp [h.1], fun a z e => ?_⟩
  by_cases ha : a < rows.length
  · rw [List.getElem?_append_left ha] at e
    obtain ⟨q', h1, h2⟩ := h.2 a z e
    exact ⟨q', by rw [List.getElem?_append_left (by rw [h.1]; exact ha)]; exact h1, h2⟩
  · have hl := (List.getElem?_eq_some_iff.mp e).1
    simp at hl
    have : a = rows.length := by omega
    subst this
    simp at e
    subst e
    exact ⟨q, by rw [← h.1]; simp, hq⟩
theorem stepS_len (hs : List Hea) (st : List Int) (sts : List (List Int)) (k : Nat) : (stepS hs st sts k).1.length ≤ sts.length + 1 := by
  unfold stepS
  split
  · split <;> simp
  · simp
theorem rowS_len (hs : List Hea) (st : List Int) : ∀ (ks : List Nat) (sts : List (List Int)), (rowS hs st ks sts).1.length ≤ sts.length + ks.length ∧ (rowS hs st ks sts).2.length = ks.length
  | [], sts => ⟨by simp [rowS], rfl⟩
  | k :: ks, sts => by
    have h1 := stepS_len hs st sts k
    have h2 := rowS_len hs st ks (stepS hs st sts k).1
    unfold rowS
    refine ⟨?_, by simp [h2.2]⟩
    simp only [List.length_cons]
    omega
theorem ixS_get {ys : List Str} (nd : ys.Nodup) {k : Nat} {z : Str} (h : ys[k]? = some z) : ixS ys z = k := by
  obtain ⟨_, h2, h3⟩ := ixS_ok (List.mem_of_getElem? h)
  exact (List.getElem?_inj h2 nd).mp (h3.trans h.symm)
end Y
end Mir

/-! Mir: the map of a walk; rooms as they come up; maps laid on one another. -/
namespace Mir
namespace Y
open PySem PySem.Spec PyProof.Rows L2 Mir
/-! ### rooms as they come up -/
end Y
end Mir

/-! Mir: rooms as they come up, numbered, laid. -/
namespace Mir
namespace Y
open PySem PySem.Spec PyProof.Rows L2 Mir
/-! ### the plain thing -/
/-! ### two maps alike -/
/-- rooms of one map at rooms of another one: all ways lead alike -/
structure Iso (r r' : Rows') (f : Nat → Nat) : Prop where
  len : r.length = r'.length
  zero : f 0 = 0
  lt : ∀ a, a < r.length → f a < r'.length
  inj : ∀ a b, a < r.length → b < r.length → f a = f b → a = b
  row : ∀ a, a < r.length → rAt r' (f a) = (rAt r a).map (Option.map f)
end Y
end Mir

/-! Mir: come_to, numbered, laid. -/
namespace Mir
namespace Y
open PySem PySem.Spec PyProof.Rows L2 Mir
/-- a map whose rooms all are come to from the first one; a deed may lead nowhere -/
structure ComR (w : Nat) (r : Rows') : Prop where
  pos : 0 < r.length
  wid : ∀ x ∈ r, x.length = w
  rng : ∀ a k b, way r a k b → b < r.length
end Y
end Mir

/-! Mir: things with texts compared; laid; does. -/
namespace Mir
namespace Y
open PySem PySem.Spec PyProof.Rows L2 Mir
/-- some things are told apart by == -/
structure EncP {α : Type} [DecidableEq α] (f : α → D) (k : Nat) (S : α → Prop) : Prop where
  ex : ∃ p : α → PyData, (∀ m n x, S x → toP m (n + k) (f x) = some (p x)) ∧ ∀ x y, S x → S y → PyData.eqv (p x) (p y) = decide (x = y)
theorem Enc.p {α : Type} [DecidableEq α] {f : α → D} {k : Nat} (h : Enc f k) : EncP f k fun _ => True := by
  obtain ⟨p, h1, h2⟩ := h.ex
  exact ⟨p, fun m n x _ => h1 m n x, fun x y _ _ => h2 x y⟩
theorem eqvAll_mapP {α : Type} [DecidableEq α] {p : α → PyData} {S : α → Prop} (h : ∀ x y, S x → S y → PyData.eqv (p x) (p y) = decide (x = y)) : ∀ xs ys : List α, (∀ x ∈ xs, S x) → (∀ y ∈ ys, S y) → PyData.eqvAll (xs.map p) (ys.map p) = decide (xs = ys)
  | [], [], _, _ => rfl
  | [], y :: ys, _, _ => by simp [PyData.eqvAll]
  | x :: xs, [], _, _ => by simp [PyData.eqvAll]
  | x :: xs, y :: ys, hx, hy => by
    show (PyData.eqv (p x) (p y) && PyData.eqvAll (xs.map p) (ys.map p)) = _
    rw [h x y (hx x List.mem_cons_self) (hy y List.mem_cons_self), eqvAll_mapP h xs ys (fun z hz => hx z (List.mem_cons_of_mem _ hz)) (fun z hz => hy z (List.mem_cons_of_mem _ hz)), Bool.eq_iff_iff]
    simp
theorem toPs_mapP {α : Type} {f : α → D} {p : α → PyData} {S : α → Prop} {m : Mem} {n : Nat} (h : ∀ x, S x → toP m n (f x) = some (p x)) : ∀ xs : List α, (∀ x ∈ xs, S x) → mapO (toP m n) (xs.map f) = some (xs.map p)
  | [], _ => rfl
  | x :: xs, hx => by
    rw [List.map_cons, List.map_cons]
    unfold mapO
    rw [h x (hx x List.mem_cons_self), toPs_mapP h xs fun z hz => hx z (List.mem_cons_of_mem _ hz)]
theorem EncP.tup {α : Type} [DecidableEq α] {f : α → D} {k : Nat} {S : α → Prop} (h : EncP f k S) : EncP (fun xs : List α => .tup (xs.map f)) (k + 1) (fun xs => ∀ x ∈ xs, S x) := by
  obtain ⟨p, h1, h2⟩ := h.ex
  exact ⟨fun xs => .tuple (xs.map p), fun m n xs hx => by
    show (mapO (toP m (n + k)) (xs.map f)).map _ = _
    rw [toPs_mapP (h1 m n) xs hx]; rfl, fun xs ys hx hy => eqvAll_mapP h2 xs ys hx hy⟩
theorem EncP.lst {α : Type} [DecidableEq α] {f : α → D} {k : Nat} {S : α → Prop} (h : EncP f k S) : EncP (fun xs : List α => .lst (xs.map f)) (k + 1) (fun xs => ∀ x ∈ xs, S x) := by
  obtain ⟨p, h1, h2⟩ := h.ex
  exact ⟨fun xs => .list (xs.map p), fun m n xs hx => by
    show (mapO (toP m (n + k)) (xs.map f)).map _ = _
    rw [toPs_mapP (h1 m n) xs hx]; rfl, fun xs ys hx hy => eqvAll_mapP h2 xs ys hx hy⟩
theorem EncP.up {α : Type} [DecidableEq α] {f : α → D} {k j : Nat} {S : α → Prop} (h : EncP f k S) (hj : k ≤ j) : EncP f j S := by
  obtain ⟨p, h1, h2⟩ := h.ex
  exact ⟨p, fun m n x hx => by rw [show n + j = (n + (j - k)) + k by omega]; exact h1 m _ x hx, h2⟩
theorem EncP.of {α β : Type} [DecidableEq α] [DecidableEq β] {f : α → D} {k : Nat} {S : α → Prop} (h : EncP f k S) (g : β → α) (hg : ∀ x y, g x = g y → x = y) : EncP (fun x => f (g x)) k (fun x => S (g x)) := by
  obtain ⟨p, h1, h2⟩ := h.ex
  exact ⟨fun x => p (g x), fun m n x hx => h1 m n _ hx, fun x y hx hy => by
    rw [h2 _ _ hx hy, Bool.eq_iff_iff]
    simp
    exact ⟨hg x y, fun e => by rw [e]⟩⟩
def GoodS (xs : List Str) : Prop := ∀ x ∈ xs, PyData.strOk x = true
theorem Nm.good {x : Str} (h : Nm x) : PyData.strOk x = true := by
  rw [← S_of x]
  exact strOk_S fun c hc => by
    have := (letL_mem c).mp (h.let' c hc)
    omega
theorem Nms.good {xs : List Str} (h : Nms xs) : GoodS xs := fun x hx => Nm.good (h.nm x hx)
instance : DecidableEq Cha := fun a b => by
  obtain ⟨n, r⟩ := a
  obtain ⟨n', r'⟩ := b
  by_cases h : n = n' ∧ r = r'
  · exact isTrue (by rw [h.1, h.2])
  · exact isFalse fun e => h (by injection e with e1 e2; exact ⟨e1, e2⟩)
section
variable {m : Mem} {P : D → Mem → Prop}
end
end Y
end Mir

/-! Mir: what a walk is; a yard that does a map. -/
namespace Mir
namespace Y
open PySem PySem.Spec PyProof.Rows L2 Mir
variable {hs : List Hea} {st0 : List Int}
theorem rowS_wk {st : List Int} {rows : Rows'} : ∀ (n : Nat) {sts : List (List Int)} {x : List (Option Nat)}, Wk hs st0 sts (rows ++ [x]) → sts[rows.length]? = some st →
    Wk hs st0 (rowS hs st (List.range' x.length n) sts).1 (rows ++ [x ++ (rowS hs st (List.range' x.length n) sts).2]) ∧ ∃ t, (rowS hs st (List.range' x.length n) sts).1 = sts ++ t
  | 0, sts, x, w, hst => by simpa [rowS] using w
  | n + 1, sts, x, w, hst => by
    rw [List.range'_succ]
    have key : ∃ t, (stepS hs st sts x.length).1 = sts ++ t ∧ Wk hs st0 (sts ++ t) (rows ++ [x ++ [(stepS hs st sts x.length).2]]) := by
      unfold stepS
      cases hth : thereB hs st x.length with
      | false =>
        refine ⟨[], by simp, ?_⟩
        have := w.mono (extra := []) (o := none) hst (fun _ => hth) (fun b e => by cases e) (by simpa using w.nd) (fun b h1 h2 => by simp at h2; omega)
        simpa using this
      | true =>
        by_cases hin : ledL hs st x.length ∈ sts
        · refine ⟨[], by simp [hin], ?_⟩
          have := w.mono (extra := []) (o := some (sts.idxOf (ledL hs st x.length))) hst (fun e => by cases e) (fun b e => by
            cases e
            refine ⟨hth, ?_⟩
            rw [List.append_nil, List.getElem?_eq_getElem (List.idxOf_lt_length_iff.mpr hin), List.getElem_idxOf]) (by simpa using w.nd) (fun b h1 h2 => by simp at h2; omega)
          simpa [hin] using this
        · refine ⟨[ledL hs st x.length], by simp [hin], ?_⟩
          have hnd : (sts ++ [ledL hs st x.length]).Nodup := by
            rw [List.nodup_append]
            refine ⟨w.nd, by simp, fun a ha c hc => ?_⟩
            have : c = ledL hs st x.length := by simpa using hc
            rw [this]
            exact fun e => hin (e ▸ ha)
          have := w.mono (extra := [ledL hs st x.length]) (o := some sts.length) hst (fun e => by cases e) (fun b e => by
            cases e
            exact ⟨hth, by simp⟩) hnd (fun b h1 h2 => by simp at h2; congr 1; omega)
          simpa [hin] using this
    obtain ⟨t, h1, h2⟩ := key
    have hst2 : (sts ++ t)[rows.length]? = some st := by rw [List.getElem?_append_left (List.getElem?_eq_some_iff.mp hst).1]; exact hst
    obtain ⟨k1, u, k2⟩ := rowS_wk n h2 hst2
    rw [List.length_append, List.length_singleton] at k1 k2
    unfold rowS
    rw [h1]
    exact ⟨by simpa using k1, t ++ u, by rw [k2, List.append_assoc]⟩
theorem rowS_wk0 {st : List Int} {rows : Rows'} {sts : List (List Int)} (w : Nat) (h : Wk hs st0 sts rows) (hst : sts[rows.length]? = some st) :
    Wk hs st0 (rowS hs st (List.range w) sts).1 (rows ++ [(rowS hs st (List.range w) sts).2]) ∧ ∃ t, (rowS hs st (List.range w) sts).1 = sts ++ t := by
  have := rowS_wk w h.nil hst
  rw [List.length_nil, ← List.range_eq_range'] at this
  simpa using this
/-- what is true of a walk at its end -/
structure WkE (hs : List Hea) (st0 : List Int) (w most : Nat) (sts : List (List Int)) (rows : Rows') : Prop where
  wk : Wk hs st0 sts rows
  le : rows.length ≤ sts.length
  wid : ∀ x ∈ rows, x.length = w
  fin : sts.length ≤ most → rows.length = sts.length
theorem walkS_wk {w most : Nat} : ∀ (f : Nat) {sts : List (List Int)} {rows : Rows'}, Wk hs st0 sts rows → rows.length ≤ sts.length → (∀ x ∈ rows, x.length = w) → f + rows.length = most → WkE hs st0 w most (walkS hs w most f sts rows).1 (walkS hs w most f sts rows).2
  | 0, sts, rows, h, hle, hw, hf => ⟨h, hle, hw, fun h1 => by show rows.length = sts.length; have h1 : sts.length ≤ most := h1; omega⟩
  | f + 1, sts, rows, h, hle, hw, hf => by
    unfold walkS
    split
    · rename_i hc
      have hst : sts[rows.length]? = some (stA sts rows.length) := by
        unfold stA
        rw [List.getD_eq_getElem?_getD, List.getElem?_eq_getElem hc.1]
        rfl
      obtain ⟨k1, t, k2⟩ := rowS_wk0 w h hst
      have hl := (rowS_len hs (stA sts rows.length) (List.range w) sts).2
      refine walkS_wk f k1 ?_ (fun x hx => ?_) (by simp; omega)
      · rw [k2]
        simp
        omega
      · rcases List.mem_append.mp hx with hx | hx
        · exact hw x hx
        · rw [List.mem_singleton.mp hx, hl, List.length_range]
    · rename_i hc
      exact ⟨h, hle, hw, fun h1 => by
        show rows.length = sts.length
        have h1 : sts.length ≤ most := h1
        omega⟩
theorem walkY_wk (y : Yar) (most : Nat) : WkE y.h (y.h.map Hea.s) y.d.length most (walkY y most).1 (walkY y most).2 :=
  walkS_wk most ⟨by simp, rfl, fun a k x o e => by simp at e, fun b hb => .inl (by simpa using hb)⟩ (by simp) (by simp) (by simp)
/-- stands at the rooms of a map -/
structure Doe (hs : List Hea) (w : Nat) (r : Rows') (S : Nat → List Int) : Prop where
  zero : S 0 = hs.map Hea.s
  inj : ∀ a b, a < r.length → b < r.length → S a = S b → a = b
  go : ∀ a k b, way r a k b → thereB hs (S a) k = true ∧ ledL hs (S a) k = S b
  no : ∀ a k, a < r.length → k < w → oAt (rAt r a) k = none → thereB hs (S a) k = false
variable {sts : List (List Int)} {rows : Rows'} {w most : Nat} {r : Rows'} {S : Nat → List Int}
theorem oAt_way {r : Rows'} {a k : Nat} (ha : a < r.length) {b : Nat} (h : oAt (rAt r a) k = some b) : way r a k b := by
  refine ⟨rAt r a, rAt_some ha, ?_⟩
  unfold oAt at h
  rw [List.getD_eq_getElem?_getD] at h
  cases hx : (rAt r a)[k]? with
  | none => rw [hx] at h; cases h
  | some o => rw [hx] at h; exact congrArg some h
theorem way_oAt {r : Rows'} {a k b : Nat} (h : way r a k b) : oAt (rAt r a) k = some b := by
  obtain ⟨x, h1, h2⟩ := h
  rw [rAt_eq h1, oAt_eq h2]
/-- each stand of a walk is a room's -/
theorem Doe.all (d : Doe hs w r S) (ok : OkRows w r) (wk : Wk hs (hs.map Hea.s) sts rows) (hw : ∀ x ∈ rows, x.length = w) : ∀ (n b : Nat), b ≤ n → b < sts.length → ∃ a, a < r.length ∧ sts[b]? = some (S a) := by
  intro n
  induction n with
  | zero =>
    intro b hb hl
    have : b = 0 := by omega
    subst this
    exact ⟨0, ok.pos, by rw [wk.st0, d.zero]⟩
  | succ n ih =>
    intro b hb hl
    rcases wk.com b hl with h | ⟨i, k, hib, x, hx, hk⟩
    · subst h
      exact ⟨0, ok.pos, by rw [wk.st0, d.zero]⟩
    · obtain ⟨st, h1, _, h3⟩ := wk.row i k x (some b) hx hk
      obtain ⟨h4, h5⟩ := h3 b rfl
      obtain ⟨a, ha, e⟩ := ih i (by omega) (by omega)
      rw [e] at h1
      cases h1
      have hkw : k < w := by
        have := (List.getElem?_eq_some_iff.mp hk).1
        rw [hw x (List.mem_of_getElem? hx)] at this
        exact this
      cases ho : oAt (rAt r a) k with
      | none => rw [d.no a k ha hkw ho] at h4; cases h4
      | some a' =>
        have hway := oAt_way ha ho
        exact ⟨a', ok.rng _ _ _ hway, by rw [h5, (d.go a k a' hway).2]⟩
theorem Doe.few (d : Doe hs w r S) (ok : OkRows w r) (wk : Wk hs (hs.map Hea.s) sts rows) (hw : ∀ x ∈ rows, x.length = w) : sts.length ≤ r.length := by
  -- the rooms of the stands are unlike
  have hall := fun b hb => d.all ok wk hw b b (Nat.le_refl _) hb
  have hex : ∃ f : Nat → Nat, ∀ b, b < sts.length → f b < r.length ∧ sts[b]? = some (S (f b)) := by
    refine ⟨fun b => if h : b < sts.length then Classical.choose (hall b h) else 0, fun b hb => ?_⟩
    simp only [dif_pos hb]
    exact Classical.choose_spec (hall b hb)
  obtain ⟨f, hf⟩ := hex
  have nd : ((List.range sts.length).map f).Nodup := by
    rw [List.nodup_iff_pairwise_ne, List.pairwise_map]
    refine List.Pairwise.imp_of_mem (fun {a b} ha hb hab => ?_) (List.nodup_iff_pairwise_ne.mp List.nodup_range)
    intro e
    have h1 := hf a (by simpa using ha)
    have h2 := hf b (by simpa using hb)
    rw [e, ← h2.2] at h1
    exact hab ((List.getElem?_inj (by simpa using ha) wk.nd).mp h1.2)
  have := nodup_len r.length _ nd fun a ha => by
    obtain ⟨b, hb, rfl⟩ := List.mem_map.mp ha
    exact (hf b (by simpa using hb)).1
  simpa using this
theorem Doe.met (d : Doe hs w r S) (ok : OkRows w r) (e : WkE hs (hs.map Hea.s) w most sts rows) (hf : rows.length = sts.length) : ∀ a, Com r a → S a ∈ sts := by
  intro a ha
  induction ha with
  | zero => rw [d.zero]; exact List.mem_of_getElem? e.wk.st0
  | @step a k b hc hw ih =>
    obtain ⟨i, hi⟩ := List.mem_iff_getElem?.mp ih
    have hil : i < rows.length := by rw [hf]; exact (List.getElem?_eq_some_iff.mp hi).1
    have hk : k < (rAt rows i).length := by
      rw [e.wid _ (rAt_mem hil)]
      obtain ⟨x, h1, h2⟩ := hw
      rw [← ok.wid x (List.mem_of_getElem? h1)]
      exact (List.getElem?_eq_some_iff.mp h2).1
    obtain ⟨st, h1, h2, h3⟩ := e.wk.row i k _ _ (rAt_some hil) (oAt_get hk)
    rw [hi] at h1
    cases h1
    obtain ⟨g1, g2⟩ := d.go a k b hw
    cases ho : oAt (rAt rows i) k with
    | none => rw [h2 ho] at g1; cases g1
    | some j => rw [← g2]; exact List.mem_of_getElem? (h3 j ho).2
theorem Doe.len (d : Doe hs w r S) (ok : OkRows w r) (e : WkE hs (hs.map Hea.s) w r.length sts rows) : sts.length = r.length ∧ rows.length = sts.length := by
  have h1 := d.few ok e.wk e.wid
  have h2 := e.fin h1
  refine ⟨Nat.le_antisymm h1 ?_, h2⟩
  have hm := d.met ok e h2
  have nd : ((List.range r.length).map fun a => sts.idxOf (S a)).Nodup := by
    rw [List.nodup_iff_pairwise_ne, List.pairwise_map]
    refine List.Pairwise.imp_of_mem (fun {a b} ha hb hab => ?_) (List.nodup_iff_pairwise_ne.mp List.nodup_range)
    intro q
    have ha : a < r.length := by simpa using ha
    have hb : b < r.length := by simpa using hb
    have e1 := List.getElem_idxOf (List.idxOf_lt_length_iff.mpr (hm a (ok.com a ha)))
    have e2 := List.getElem_idxOf (List.idxOf_lt_length_iff.mpr (hm b (ok.com b hb)))
    refine hab (d.inj a b ha hb ?_)
    rw [← e1, ← e2]
    congr 1
  have := nodup_len sts.length _ nd fun i hi => by
    obtain ⟨a, ha, rfl⟩ := List.mem_map.mp hi
    exact List.idxOf_lt_length_iff.mpr (hm a (ok.com a (by simpa using ha)))
  simpa using this
end Y
end Mir

/-! Mir: whether a yard does a map. -/
namespace Mir
namespace Y
open PySem PySem.Spec PyProof.Rows L2 Mir
section
variable {hs : List Hea} {sts : List (List Int)} {rows : Rows'} {w : Nat} {r : Rows'} {S : Nat → List Int}
/-- the walk of a yard that does a map is the map -/
theorem Doe.iso (d : Doe hs w r S) (ok : OkRows w r) (e : WkE hs (hs.map Hea.s) w r.length sts rows) : (∀ k, k < w → ∃ a b, way rows a k b) ∧ ∃ f, Iso rows r f := by
  obtain ⟨hl, hf⟩ := d.len ok e
  have hm := d.met ok e hf
  have hall := fun b hb => d.all ok e.wk e.wid b b (Nat.le_refl _) hb
  have hex : ∃ f : Nat → Nat, ∀ b, b < sts.length → f b < r.length ∧ sts[b]? = some (S (f b)) := by
    refine ⟨fun b => if h : b < sts.length then Classical.choose (hall b h) else 0, fun b hb => ?_⟩
    simp only [dif_pos hb]
    exact Classical.choose_spec (hall b hb)
  obtain ⟨f, hf2⟩ := hex
  have entry : ∀ i k, i < rows.length → k < w → oAt (rAt r (f i)) k = (oAt (rAt rows i) k).map f := fun i k hi hk => by
    have hi2 := hf2 i (by omega)
    obtain ⟨st, h1, h2, h3⟩ := e.wk.row i k _ _ (rAt_some hi) (oAt_get (by rw [e.wid _ (rAt_mem hi)]; exact hk))
    rw [hi2.2] at h1
    cases h1
    cases ho : oAt (rAt rows i) k with
    | none =>
      have hno := h2 ho
      cases hq : oAt (rAt r (f i)) k with
      | none => rfl
      | some b => rw [(d.go _ _ _ (oAt_way hi2.1 hq)).1] at hno; cases hno
    | some j =>
      obtain ⟨h4, h5⟩ := h3 j ho
      cases hq : oAt (rAt r (f i)) k with
      | none => rw [d.no _ _ hi2.1 hk hq] at h4; cases h4
      | some b =>
        have hway := oAt_way hi2.1 hq
        have hj := hf2 j (List.getElem?_eq_some_iff.mp h5).1
        rw [h5, (d.go _ _ _ hway).2] at hj
        show some b = some (f j)
        rw [d.inj b (f j) (ok.rng _ _ _ hway) hj.1 (Option.some.inj hj.2)]
  refine ⟨fun k hk => ?_, f, by omega, ?_, fun a ha => (hf2 a (by omega)).1, fun a b ha hb q => ?_, fun i hi => ?_⟩
  · obtain ⟨a, b, hw⟩ := ok.deed k hk
    have haw := (way_wid ok.wid hw).1
    obtain ⟨i, hi⟩ := List.mem_iff_getElem?.mp (hm a (ok.com a haw))
    have hil := (List.getElem?_eq_some_iff.mp hi).1
    have e1 := hf2 i hil
    rw [hi] at e1
    have e2 := d.inj a (f i) haw e1.1 (Option.some.inj e1.2)
    have e3 := entry i k (by omega) hk
    rw [← e2, way_oAt hw] at e3
    cases ho : oAt (rAt rows i) k with
    | none => rw [ho] at e3; cases e3
    | some j => exact ⟨i, j, oAt_way (by omega) ho⟩
  · have e1 := hf2 0 (List.getElem?_eq_some_iff.mp e.wk.st0).1
    rw [e.wk.st0] at e1
    have e2 := Option.some.inj e1.2
    rw [← d.zero] at e2
    exact (d.inj 0 (f 0) ok.pos e1.1 e2).symm
  · have e1 := hf2 a (by omega)
    have e2 := hf2 b (by omega)
    rw [q, ← e2.2] at e1
    exact (List.getElem?_inj (by omega) e.wk.nd).mp e1.2
  · have hi2 := (hf2 i (by omega)).1
    refine List.ext_getElem? fun k => ?_
    have l1 := ok.wid _ (rAt_mem hi2)
    have l2 := e.wid _ (rAt_mem hi)
    by_cases hk : k < w
    · rw [oAt_get (by omega), List.getElem?_map, oAt_get (by omega)]
      exact congrArg some (entry i k hi hk)
    · rw [List.getElem?_eq_none (by omega), List.getElem?_eq_none (by simp; omega)]
end
section
variable {m : Mem} {P : D → Mem → Prop}
end
end Y
end Mir

/-! Mir: yards of heaps that stand in a map. -/
namespace Mir
namespace Y
open PySem PySem.Spec PyProof.Rows L2 Mir
section
variable {hs : List Hea} {w : Nat} {r : Rows'}
/-- the counts of heaps at a room -/
noncomputable def cntS (r : Rows') (hs : List Hea) (a : Nat) : List Int := hs.map fun x => cntH x (levOf r x) a
theorem there_map (hs : List Hea) (f : Hea → Int) (k : Nat) : thereB hs (hs.map f) k = hs.all fun x => decide (tk x k ≤ f x) := by
  unfold thereB
  induction hs with
  | nil => rfl
  | cons x xs ih => simp only [List.map_cons, List.zip_cons_cons, List.all_cons, ih]
theorem led_map (hs : List Hea) (f : Hea → Int) (k : Nat) : ledL hs (hs.map f) k = hs.map fun x => f x - tk x k + lk x k := by
  unfold ledL
  induction hs with
  | nil => rfl
  | cons x xs ih => simp only [List.map_cons, List.zip_cons_cons, ih]
theorem cntS_go (ok : OkRows w r) (fit : Fit w hs) (st : ∀ x ∈ hs, Stands r x) {a k b : Nat} (hw : way r a k b) : thereB hs (cntS r hs a) k = true ∧ ledL hs (cntS r hs a) k = cntS r hs b := by
  have hk := (way_wid ok.wid hw).2
  refine ⟨?_, ?_⟩
  · unfold cntS
    rw [there_map, List.all_eq_true]
    intro x hx
    exact decide_eq_true ((levOf_stn (st x hx)).en a k b hw)
  · unfold cntS
    rw [led_map]
    refine List.map_congr_left fun x hx => ?_
    have h1 := (levOf_stn (st x hx)).lev.w a k b hw
    rw [effL_at (fit x hx).1 (fit x hx).2 hk] at h1
    unfold cntH
    omega
theorem Doe.cnt (ok : OkRows w r) (fit : Fit w hs) (st : ∀ x ∈ hs, Stands r x) {S : Nat → List Int} (d : Doe hs w r S) : ∀ a, Com r a → S a = cntS r hs a := by
  intro a ha
  induction ha with
  | zero =>
    rw [d.zero]
    unfold cntS
    refine List.map_congr_left fun x hx => ?_
    have := (levOf_stn (st x hx)).lev.z
    unfold cntH
    omega
  | step h hw ih => rw [← (d.go _ _ _ hw).2, ih, (cntS_go ok fit st hw).2]
theorem doe_iff (ok : OkRows w r) (fit : Fit w hs) (st : ∀ x ∈ hs, Stands r x) :
    (∃ S, Doe hs w r S) ↔ (∀ a b, a < b → b < r.length → ParL r hs a b) ∧ ∀ a k, a < r.length → k < w → hasW r k a = false → BarL r hs a k := by
  constructor
  · rintro ⟨S, d⟩
    have hc := fun a ha => d.cnt ok fit st a (ok.com a ha)
    refine ⟨fun a b hab hb => ?_, fun a k ha hk hno => ?_⟩
    · refine Classical.byContradiction fun hn => ?_
      have : S a = S b := by
        rw [hc a (by omega), hc b hb]
        unfold cntS
        refine List.map_congr_left fun x hx => ?_
        refine Classical.byContradiction fun hne => hn ⟨x, hx, hne⟩
      have := d.inj a b (by omega) hb this
      omega
    · have h1 := d.no a k ha hk (by
        unfold hasW at hno
        cases ho : oAt (rAt r a) k with
        | none => rfl
        | some b => rw [ho] at hno; cases hno)
      rw [hc a ha] at h1
      unfold cntS at h1
      rw [there_map] at h1
      obtain ⟨x, hx, h2⟩ := List.all_eq_false.mp h1
      exact ⟨x, hx, by simpa using h2⟩
  · rintro ⟨hp, hb⟩
    refine ⟨cntS r hs, ?_, fun a b ha hb' e => ?_, fun a k b hw => cntS_go ok fit st hw, fun a k ha hk ho => ?_⟩
    · unfold cntS
      refine List.map_congr_left fun x hx => ?_
      have := (levOf_stn (st x hx)).lev.z
      unfold cntH
      omega
    · have key : ∀ a b, a < b → b < r.length → cntS r hs a ≠ cntS r hs b := fun a b hab hb e => by
        obtain ⟨x, hx, hne⟩ := hp a b hab hb
        unfold cntS at e
        exact hne (List.map_inj_left.mp e x hx)
      rcases Nat.lt_trichotomy a b with h | h | h
      · exact absurd e (key a b h hb')
      · exact h
      · exact absurd e.symm (key b a h ha)
    · obtain ⟨x, hx, hlt⟩ := hb a k ha hk (by unfold hasW; rw [ho]; rfl)
      unfold cntS
      rw [there_map]
      exact List.all_eq_false.mpr ⟨x, hx, by simpa using hlt⟩
end
/-! ### lean yards -/
section
variable {m : Mem} {P : D → Mem → Prop}
end
end Y
end Mir

/-! Mir: loose heaps; heaps compared. -/
namespace Mir
namespace Y
open PySem PySem.Spec PyProof.Rows L2 Mir
/-- a heap of effects with a greater start, lesser takes -/
structure Loo (r : Rows') (w : Nat) (es : List Int) (L : Nat → Int) (x : Hea) : Prop where
  t : x.t.length = w
  l : x.l.length = w
  eff : effL x = es
  s : tgtS r L ≤ x.s ∧ x.s ≤ tgtS r L + 2
  t0 : ∀ v ∈ x.t, 0 ≤ v
  l0 : ∀ v ∈ x.l, 0 ≤ v
  pos : ∀ a, a < r.length → 0 ≤ x.s + L a
  en : Enough r x (cntH x L)
section
variable {m : Mem} {c : Cha} {P : D → Mem → Prop} {i : Nat}
theorem Loo.stn {r : Rows'} {w : Nat} {es : List Int} {L : Nat → Int} {x : Hea} (h : Loo r w es L x) (hL : IsLev r (eAt es) L) : Stn r x L := ⟨by rw [h.eff]; exact hL, h.pos, h.en⟩
end
instance : DecidableEq Hea := fun a b => by
  obtain ⟨s, t, l⟩ := a
  obtain ⟨s', t', l'⟩ := b
  by_cases h : s = s' ∧ t = t' ∧ l = l'
  · exact isTrue (by rw [h.1, h.2.1, h.2.2])
  · exact isFalse fun e => h (by injection e with e1 e2 e3; exact ⟨e1, e2, e3⟩)
end Y
end Mir

/-! Mir: the laws' walk of a yard, to the sign. -/
namespace Mir
namespace Y
open PySem PySem.Spec PyProof.Rows L2 Mir
theorem rowS_snoc (hs : List Hea) (st : List Int) (k : Nat) : ∀ (ks : List Nat) (sts : List (List Int)), rowS hs st (ks ++ [k]) sts = ((stepS hs st (rowS hs st ks sts).1 k).1, (rowS hs st ks sts).2 ++ [(stepS hs st (rowS hs st ks sts).1 k).2])
  | [], sts => rfl
  | z :: ks, sts => by
    rw [List.cons_append]
    unfold rowS
    rw [rowS_snoc hs st k ks]
    rfl
theorem law_walked_then {m : Mem} {y : Yar} {most : Nat} {P : D → Mem → Prop} (hf : Fit y.d.length y.h) (hl : y.h.length ≤ 900) (hd : y.d.length ≤ 900) (hm : most ≤ 900)
    (h1 : ∀ m' j, (walkY y most).1.length ≤ most → Kp m m' → m.length ≤ j → m'[j]? = some (.lst ((walkY y most).1.map iT)) → P (.tup [.tup ((walkY y most).2.map rowD), .ref j]) m')
    (h2 : ∀ m', most < (walkY y most).1.length → Kp m m' → P .non m') : Tri (m__law_walked [yarD y, .int (most : Nat)] m) P := by
  refine tri_fn rfl ?_
  simp [b__law_walked, yarD, b__law_walked_s1]
  rw [comp_mapT heaD (fun h => D.int h.s) y.h [] (fun h _ => ⟨_, rfl, rfl, by simp [wipeE, heaD]⟩) (by simp; omega)]
  have e0 : D.tup (y.h.map fun h => D.int h.s) = iT (y.h.map Hea.s) := by unfold iT; rw [List.map_map]; rfl
  simp [e0, b__law_walked_s2]
  have hs1 : (m ++ [Cell.lst [iT (y.h.map Hea.s)], Cell.lst []])[m.length]? = some (.lst ([y.h.map Hea.s].map iT)) := by simp
  have hr1 : (m ++ [Cell.lst [iT (y.h.map Hea.s)], Cell.lst []])[m.length + 1]? = some (.lst (([] : Rows').map rowD)) := by
    rw [List.getElem?_append_right (by simp)]; simp
  have hk1 : Kp m (m ++ [Cell.lst [iT (y.h.map Hea.s)], Cell.lst []]) := by
    have := ((Kp.refl m).push (Cell.lst [iT (y.h.map Hea.s)])).push (Cell.lst [])
    simpa using this
  generalize m ++ [Cell.lst [iT (y.h.map Hea.s)], Cell.lst []] = m1 at hs1 hr1 hk1
  simp [b__law_walked_s3]
  refine while_inv (fun n η m' => ∃ sts rows, n + rows.length = most ∧ walkS y.h y.d.length most n sts rows = walkY y most ∧ rows.length ≤ sts.length ∧ sts.length ≤ 1 + 900 * rows.length ∧ (∀ x ∈ rows, x.length = y.d.length) ∧
      (∃ e6 e7 e8 e9, η = [some (D.tup [sT y.d, D.tup (List.map heaD y.h)]), some (D.int (most : Nat)), some (D.ref m.length), some (D.ref (m.length + 1)), some (sT y.d), some (D.tup (List.map heaD y.h)), e6, e7, e8, e9, none, none]) ∧
      Kp m m' ∧ m'[m.length]? = some (.lst (sts.map iT)) ∧ m'[m.length + 1]? = some (.lst (rows.map rowD))) most (by omega) ⟨[y.h.map Hea.s], [], by simp, rfl, by simp, by simp, by simp, ⟨_, _, _, _, rfl⟩, hk1, hs1, hr1⟩ ?_
  rintro n η m' ⟨sts, rows, hn, w, hle, hbig, hwid, ⟨e6, e7, e8, e9, rfl⟩, hkp, hs, hr⟩
  simp [len_ref hs, len_ref hr]
  have hend : rows.length = sts.length ∨ most < sts.length → TriS (b__law_walked_s4 [some (D.tup [sT y.d, D.tup (List.map heaD y.h)]), some (D.int ↑most), some (D.ref (List.length m)), some (D.ref (List.length m + 1)), some (sT y.d), some (D.tup (List.map heaD y.h)), e6, e7, e8, e9, none, none] m') (fun x m => P D.non m) P := by
    intro hq
    simp [b__law_walked_s4, tuple_ref hr, len_ref hs]
    have e := walkS_end (hs := y.h) (w := y.d.length) (most := most) n (sts := sts) (rows := rows) (by omega)
    rw [w] at e
    by_cases hgt : most < sts.length
    · simp [hgt]
      exact h2 m' (by rw [e]; exact hgt) hkp
    · simp [hgt]
      have := h1 m' m.length (by rw [e]; show sts.length ≤ most; omega) hkp (Nat.le_refl _) (by rw [e]; exact hs)
      rw [e] at this
      exact this
  by_cases hlt : rows.length < sts.length
  · rw [if_pos hlt]
    by_cases hmo : sts.length ≤ most
    · rw [if_pos hmo]
      simp [b__law_walked_2]
      have hkx : m'.length ≠ m.length := by have := (List.getElem?_eq_some_iff.mp hs).1; omega
      have hkr : m'.length ≠ m.length + 1 := by have := (List.getElem?_eq_some_iff.mp hr).1; omega
      have hs := (Kp.refl m').push (Cell.lst []) |>.get hs
      have hr := (Kp.refl m').push (Cell.lst []) |>.get hr
      have hx : (m' ++ [Cell.lst []])[m'.length]? = some (.lst (([] : List (Option Nat)).map oD)) := by simp
      have hml : m.length ≤ m'.length := hkp.1
      have hkp := hkp.push (Cell.lst [])
      generalize hjx : m'.length = jx at hkx hkr hx hml
      generalize m' ++ [Cell.lst []] = m2 at hs hr hx hkp
      obtain ⟨st, hst⟩ : ∃ st, sts[rows.length]? = some st := ⟨_, List.getElem?_eq_getElem hlt⟩
      simp [b__law_walked_2s1, sT, -rng1R_int, rng_nat (n := y.d.length) (by omega)]
      refine for_inv (fun k η m' => ∃ sts' x, x.length = k ∧ rowS y.h st (List.range k) sts = (sts', x) ∧ sts'[rows.length]? = some st ∧ sts.length ≤ sts'.length ∧ sts'.length ≤ sts.length + k ∧
        (∃ e7 e8 e9, η = [some (D.tup [D.tup (y.d.map D.str), D.tup (List.map heaD y.h)]), some (D.int (most : Nat)), some (D.ref m.length), some (D.ref (m.length + 1)), some (D.tup (y.d.map D.str)), some (D.tup (List.map heaD y.h)), some (.ref jx), e7, e8, e9, none, none]) ∧
        Kp m m' ∧ m'[m.length]? = some (.lst (sts'.map iT)) ∧ m'[m.length + 1]? = some (.lst (rows.map rowD)) ∧ m'[jx]? = some (.lst (x.map oD))) _ ⟨sts, [], rfl, rfl, hst, Nat.le_refl _, by simp, ⟨_, _, _, rfl⟩, hkp, hs, hr, hx⟩ ?_ ?_
      · rintro k d η m3 hd' ⟨sts', x, hxl, w', hst', hge', hle', ⟨e7, e8, e9, rfl⟩, hkp', hs', hr', hx'⟩
        rw [rngD_nat, List.getElem?_map] at hd'
        have hk : k < y.d.length := by
          cases hq : (List.range y.d.length)[k]? with
          | none => rw [hq] at hd'; cases hd'
          | some z => have := (List.getElem?_eq_some_iff.mp hq).1; simpa using this
        rw [List.getElem?_range hk] at hd'
        cases hd'
        simp [b__law_walked_1, isTy_ref hx', append_ref hx' (by simp; omega)]
        have hkp3 := hkp'.put (j := jx) (by omega) (.lst (x.map oD ++ [.non]))
        have hs3 : (m3.set jx (.lst (x.map oD ++ [.non])))[m.length]? = some (.lst (sts'.map iT)) := by rw [List.getElem?_set_ne hkx]; exact hs'
        have hr3 : (m3.set jx (.lst (x.map oD ++ [.non])))[m.length + 1]? = some (.lst (rows.map rowD)) := by rw [List.getElem?_set_ne hkr]; exact hr'
        have hx3 : (m3.set jx (.lst (x.map oD ++ [.non])))[jx]? = some (.lst ((x ++ [none]).map oD)) := by
          rw [List.getElem?_set_self (List.getElem?_eq_some_iff.mp hx').1]; simp [oD]
        generalize m3.set jx (.lst (x.map oD ++ [.non])) = m4 at hkp3 hs3 hr3 hx3
        have e1 : gIx (.ref m.length) (.int (rows.length : Nat)) m4 = .ok (iT st) m4 := gIx_ref hs3 (atI_nat (by rw [List.getElem?_map, hst']; rfl))
        simp [b__law_walked_1s1, len_ref hr3, e1]
        simp only [iT, lzR_tt, mkL_f, tri_ok, bind_ok, zipD_map]
        simp [b__law_walked_1s2, -List.length_map]
        rw [comp_mapT (fun p : Hea × Int => D.tup [heaD p.1, .int p.2]) (fun p => D.bl (decide (tk p.1 k ≤ p.2))) (y.h.zip st) [] (fun p hp => by
          have hh := hf p.1 (List.of_mem_zip hp).1
          have e1 := fun m => gIx_iT (xs := p.1.t) (k := k) (by omega) m
          refine ⟨_, rfl, rfl, ?_⟩
          simp [wipeE, heaD, e1, tk]) (by simp; omega)]
        have e2 : (y.h.zip st).map (fun p => D.bl (decide (tk p.1 k ≤ p.2))) = ((y.h.zip st).map fun p => decide (tk p.1 k ≤ p.2)).map .bl := by rw [List.map_map]; rfl
        have e3 : ((y.h.zip st).map fun p => decide (tk p.1 k ≤ p.2)).all id = thereB y.h st k := by rw [← there_swap, List.all_map]; rfl
        simp only [tri_ok, List.nil_append, e2, bAll_bls, e3, truD_bl]
        cases htb : thereB y.h st k with
        | false =>
          simp
          refine ⟨sts', x ++ [none], by simp; omega, ?_, hst', hge', by omega, hkp3, hs3, hr3, by simpa using hx3⟩
          rw [List.range_succ, rowS_snoc, w']
          simp [stepS, htb]
        | true =>
          simp [b__law_walked_0, -List.length_map]
          rw [comp_mapT (fun p : Hea × Int => D.tup [heaD p.1, .int p.2]) (fun p => D.int (p.2 - tk p.1 k + lk p.1 k)) (y.h.zip st) [] (fun p hp => by
            have hh := hf p.1 (List.of_mem_zip hp).1
            have e1 := fun m => gIx_iT (xs := p.1.t) (k := k) (by omega) m
            have e2 := fun m => gIx_iT (xs := p.1.l) (k := k) (by omega) m
            refine ⟨_, rfl, rfl, ?_⟩
            simp [wipeE, heaD, e1, e2, tk, lk]) (by simp; omega)]
          have e4 : D.tup ((y.h.zip st).map fun p => D.int (p.2 - tk p.1 k + lk p.1 k)) = iT (ledL y.h st k) := by
            rw [← led_swap]; unfold iT; rw [List.map_map]; rfl
          simp [e4]
          generalize hled : ledL y.h st k = led at e4
          have last : ∀ (m5 : Mem) (extra : List (List Int)) {N : Env' → Mem → Prop} {B C : Env' → Mem → Prop} {Rt : D → Mem → Prop}, Kp m m5 → m5[m.length]? = some (.lst ((sts' ++ extra).map iT)) → m5[m.length + 1]? = some (.lst (rows.map rowD)) → m5[jx]? = some (.lst ((x ++ [none]).map oD)) →
              led ∈ sts' ++ extra → extra.length ≤ 1 → (∀ b, sts'.length ≤ b → b < (sts' ++ extra).length → b = (sts' ++ extra).idxOf led) →
              (∀ m6, Kp m m6 → m6[m.length]? = some (.lst ((sts' ++ extra).map iT)) → m6[m.length + 1]? = some (.lst (rows.map rowD)) → m6[jx]? = some (.lst ((x ++ [some ((sts' ++ extra).idxOf led)]).map oD)) → N [some (D.tup [D.tup (List.map D.str y.d), D.tup (List.map heaD y.h)]), some (D.int ↑most), some (D.ref (List.length m)), some (D.ref (List.length m + 1)), some (D.tup (List.map D.str y.d)), some (D.tup (List.map heaD y.h)), some (D.ref jx), some (D.int ↑k), some (D.lst (List.map (fun p => D.tup [heaD p.fst, D.int p.snd]) (y.h.zip st))), some (iT led), none, none] m6) →
              TriQ (b__law_walked_0s2 [some (D.tup [D.tup (List.map D.str y.d), D.tup (List.map heaD y.h)]), some (D.int ↑most), some (D.ref (List.length m)), some (D.ref (List.length m + 1)), some (D.tup (List.map D.str y.d)), some (D.tup (List.map heaD y.h)), some (D.ref jx), some (D.int ↑k), some (D.lst (List.map (fun p => D.tup [heaD p.fst, D.int p.snd]) (y.h.zip st))), some (iT led), none, none] m5) N B C Rt := by
            intro m5 extra N B C Rt hk5 hs5 hr5 hx5 hmem hex hidx hN
            have e5 := gSet_ref (d := oD (some ((sts' ++ extra).idxOf led))) hx5 (ixN_nat (n := ((x ++ [none]).map oD).length) (k := k) (by simp; omega))
            have e6 : ((x ++ [none]).map oD).set k (oD (some ((sts' ++ extra).idxOf led))) = (x ++ [some ((sts' ++ extra).idxOf led)]).map oD := by
              rw [← List.map_set]
              congr 1
              rw [List.set_append_right _ _ (by omega), hxl, Nat.sub_self]
              rfl
            rw [e6] at e5
            have e7 : D.int (((sts' ++ extra).idxOf led : Nat) : Int) = oD (some ((sts' ++ extra).idxOf led)) := rfl
            simp only [b__law_walked_0s2]
            generalize sts' ++ extra = sts5 at hs5 hmem hidx hN e5 e6 e7
            simp [isTy_ref hs5, index_stands hs5 hmem]
            rw [e7, e5]
            simp only [tri_ok]
            refine hN _ (hk5.put (by omega) _) (by rw [List.getElem?_set_ne hkx]; exact hs5) (by rw [List.getElem?_set_ne hkr]; exact hr5) ?_
            rw [List.getElem?_set_self (List.getElem?_eq_some_iff.mp hx5).1]
          simp [b__law_walked_0s1, gIn_stands hs3]
          by_cases hin : led ∈ sts'
          · simp [hin]
            refine last m4 [] hkp3 (by simpa using hs3) hr3 hx3 (by simpa using hin) (by simp) (fun b h1 h2 => by simp at h2; omega) fun m6 k6 s6 r6 x6 => ?_
            rw [List.append_nil] at s6 x6
            refine ⟨sts', x ++ [some (sts'.idxOf led)], by simp; omega, ?_, hst', hge', by omega, ⟨_, _, _, rfl⟩, k6, s6, r6, x6⟩
            rw [List.range_succ, rowS_snoc, w']
            simp [stepS, htb, hled, hin]
          · simp [hin, isTy_ref hs3, append_ref hs3 (by simp; omega)]
            have hidx : (sts' ++ [led]).idxOf led = sts'.length := by
              rw [List.idxOf_append, if_neg hin]
              simp
            refine last _ [led] (hkp3.put (Nat.le_refl _) _) ?_ (by rw [List.getElem?_set_ne (by omega)]; exact hr3) (by rw [List.getElem?_set_ne (fun e => hkx e.symm)]; exact hx3) (by simp) (by simp) (fun b h1 h2 => by rw [hidx]; simp at h2; omega) fun m6 k6 s6 r6 x6 => ?_
            · rw [List.getElem?_set_self (List.getElem?_eq_some_iff.mp hs3).1]
              simp
            · rw [hidx] at x6
              refine ⟨sts' ++ [led], x ++ [some sts'.length], by simp; omega, ?_, by rw [List.getElem?_append_left (List.getElem?_eq_some_iff.mp hst').1]; exact hst', by simp; omega, by simp; omega, ⟨_, _, _, rfl⟩, k6, s6, r6, x6⟩
              rw [List.range_succ, rowS_snoc, w']
              simp [stepS, htb, hled, hin]
      · rintro η m3 ⟨sts', x, hxl, w', hst', hge', hle', ⟨e7, e8, e9, rfl⟩, hkp', hs', hr', hx'⟩
        simp at hxl hle'
        simp [b__law_walked_2s2, isTy_ref hr', tuple_ref hx', append_ref hr' (by simp; omega)]
        have hstA : stA sts rows.length = st := by unfold stA; rw [List.getD_eq_getElem?_getD, hst]; rfl
        obtain ⟨n', rfl⟩ : ∃ n', n = n' + 1 := ⟨n - 1, by omega⟩
        have w2 : walkS y.h y.d.length most n' sts' (rows ++ [x]) = walkY y most := by
          unfold walkS at w
          rw [rngD_length] at w'
          rw [if_pos ⟨hlt, hmo⟩, hstA, w'] at w
          exact w
        refine ⟨n', by omega, sts', rows ++ [x], by simp; omega, w2, by simp; omega, by simp; omega, fun z hz => ?_, hkp'.put (by omega) _, hs', ?_⟩
        · rcases List.mem_append.mp hz with hz | hz
          · exact hwid z hz
          · have : z = x := by simpa using hz
            rw [this]; exact hxl
        · rw [List.getElem?_set_self (List.getElem?_eq_some_iff.mp hr').1]
          simp [rowD]
    · rw [if_neg hmo]
      exact hend (.inr (by omega))
  · rw [if_neg hlt]
    exact hend (.inl (by omega))
theorem law_map_of_then {m : Mem} {y : Yar} {most : Nat} {P : D → Mem → Prop} (hf : Fit y.d.length y.h) (hl : y.h.length ≤ 900) (hd : y.d.length ≤ 900) (hm : most ≤ 900)
    (h1 : ∀ m', (walkY y most).1.length ≤ most → Kp m m' → P (chaD (selC y.d (walkY y most).2)) m')
    (h2 : ∀ m', most < (walkY y most).1.length → Kp m m' → P .non m') : Tri (m__law_map_of [yarD y, .int (most : Nat)] m) P := by
  refine tri_fn rfl ?_
  simp [b__law_map_of]
  have we := walkY_wk y most
  refine law_walked_then hf hl hd hm (fun m' j hmo hkp _ hj => ?_) (fun m' hmo hkp => ?_)
  · have hwid := we.wid
    have hrl := we.fin hmo
    have hthis := h1 m' hmo hkp
    generalize (walkY y most).2 = rows at hwid hrl hthis
    generalize (walkY y most).1 = sts at hrl hmo hj
    simp [b__law_map_of_s1, isNon, b__law_map_of_s2]
    simp only [yarD, sT]
    simp [b__law_map_of_s3, -rng1R_int, rng_nat (n := y.d.length) (by omega)]
    rw [rngD_nat]
    have hfil := comp_filterT (g := gNm 5) (t := mTru (mCB (bAll fun bs => bs.any id) (mCons (mLc [6] false (mIt (mVar 3)) (gNm 6) mYes (mOp (gIs true) (mOp gIx (mVar 6) (mVar 5)) (mC .non))) mNil))) (e := mVar 5)
      (η := [some (.tup [.tup (y.d.map .str), .tup (y.h.map heaD)]), some (.int (most : Nat)), some (.tup [.tup (rows.map rowD), .ref j]), some (.tup (rows.map rowD)), none, none, none]) (m := m') (fun k : Nat => D.int (k : Nat)) (fun k : Nat => D.int (k : Nat)) (fun k => rows.any fun x => (oAt x k).isSome) (List.range y.d.length) [] (fun k hk => by
        have hk : k < y.d.length := List.mem_range.mp hk
        refine ⟨_, rfl, ?_, fun _ => by simp⟩
        simp
        rw [comp_mapT rowD (fun x => D.bl (oAt x k).isSome) rows [] (fun x hx => by
          have e3 := fun m => gIx_row (x := x) (k := k) (by rw [hwid x hx]; exact hk) m
          refine ⟨_, rfl, rfl, ?_⟩
          simp [wipeE, e3, oD_non]) (by simp; omega)]
        have e4 : rows.map (fun x => D.bl (oAt x k).isSome) = (rows.map fun x => (oAt x k).isSome).map .bl := by rw [List.map_map]; rfl
        simp only [List.nil_append, mkL_f, bind_ok, e4, bAll_bls, truD_bl]
        rw [List.any_map]
        rfl) (by simp; omega)
    refine (tri_eq hfil).mpr ?_
    have hdl : ∀ k ∈ doneL y.d.length rows, k < y.d.length := fun k hk => by
      unfold doneL at hk
      rw [List.mem_filter, List.mem_range] at hk
      exact hk.1
    have hdn : (doneL y.d.length rows).length ≤ 900 := by
      have : (doneL y.d.length rows).length ≤ (List.range y.d.length).length := List.length_filter_le _ _
      rw [List.length_range] at this
      omega
    have := hthis
    unfold selC chaD sT at this
    show TriS (b__law_map_of_s4 [_, _, _, _, some (.lst ([] ++ (doneL y.d.length rows).map fun k : Nat => D.int (k : Nat))), _, _] m') _ _
    generalize doneL y.d.length rows = dn at hdl hdn this
    simp [b__law_map_of_s4, -List.length_map]
    rw [comp_mapT (fun k : Nat => D.int (k : Nat)) (fun k => D.str (nAt y.d k)) dn [] (fun k hk => by
      have e3 := fun m => gIx_sT (xs := y.d) (nAt_lt (hdl k hk)) m
      unfold sT at e3
      refine ⟨_, rfl, rfl, ?_⟩
      simp [wipeE, e3]) (by simp; omega)]
    simp only [tri_ok, List.nil_append]
    rw [comp_mapT rowD (fun x => rowD (dn.map (oAt x))) rows [] (fun x hx => by
      refine ⟨_, rfl, rfl, ?_⟩
      simp [wipeE, -List.length_map]
      rw [comp_mapT (fun k : Nat => D.int (k : Nat)) (fun k => oD (oAt x k)) dn [] (fun k hk => by
        have e3 := fun m => gIx_row (x := x) (k := k) (by rw [hwid x hx]; exact hdl k hk) m
        refine ⟨_, rfl, rfl, ?_⟩
        simp [wipeE, e3]) (by simp; omega)]
      simp [rowD]) (by simp; omega)]
    simp only [tri_ok, List.nil_append, bTuple_lst]
    rw [List.map_map, List.map_map] at this
    exact this
  · simp [b__law_map_of_s1, isNon]
    exact h2 m' hmo hkp
/-! ### a walk's rows are told as they come up -/
end Y
end Mir

/-! Mir: walks by other bounds, how many stands a walk has, the program's walked where it does not raise. -/
namespace Mir
namespace Y
open PySem PySem.Spec PyProof.Rows L2 Mir
/-! ### how many stands -/
/-- a yard that is asked about -/
structure Yd (y : Yar) : Prop where
  nm : Nms y.d
  fit : Fit y.d.length y.h
  hl : y.h.length ≤ 900
  hd : y.d.length ≤ 900
end Y
end Mir

/-! Mir: a walk laid on a map by a dict of rooms (the laws' own does). -/
namespace Mir
namespace Y
open PySem PySem.Spec PyProof.Rows L2 Mir
section
variable {m : Mem}
/-! ### dicts of rooms -/
def updN (f : Nat → Nat) (b c : Nat) : Nat → Nat := fun z => if z = b then c else f z
/-! ### the search -/
structure Lie (w n : Nat) (R R' : Rows') (ord : List Nat) (f : Nat → Nat) (left : List Nat) : Prop where
  nd : ord.Nodup
  z : 0 ∈ ord ∧ f 0 = 0
  lt : ∀ a ∈ ord, a < n ∧ f a < n
  iso : ∀ g, Iso R R' g → ∀ a ∈ ord, g a = f a
  sub : ∀ a ∈ left, a ∈ ord
/-- a room's ways are looked at, those below j -/
def Did (R R' : Rows') (ord : List Nat) (f : Nat → Nat) (a j : Nat) : Prop := ∀ k, k < j → (oAt (rAt R a) k = none ∧ oAt (rAt R' (f a)) k = none) ∨ ∃ b, oAt (rAt R a) k = some b ∧ oAt (rAt R' (f a)) k = some (f b) ∧ b ∈ ord
theorem Lie.len {w n : Nat} {R R' : Rows'} {ord left : List Nat} {f : Nat → Nat} (h : Lie w n R R' ord f left) : ord.length ≤ n := by
  have := nodup_le ord (List.range n) h.nd fun x hx => List.mem_range.mpr (h.lt x hx).1
  rwa [List.length_range] at this
theorem updN_ne {f : Nat → Nat} {b c a : Nat} (h : a ≠ b) : updN f b c a = f a := if_neg h
theorem Did.add {R R' : Rows'} {ord : List Nat} {f : Nat → Nat} {a j b c : Nat} (h : Did R R' ord f a j) (ha : a ∈ ord) (hb : b ∉ ord) : Did R R' (ord ++ [b]) (updN f b c) a j := fun k hk => by
  have ne : ∀ {x}, x ∈ ord → x ≠ b := fun {x} hx e => hb (e ▸ hx)
  rw [updN_ne (ne ha)]
  rcases h k hk with h | ⟨x, h1, h2, h3⟩
  · exact .inl h
  · exact .inr ⟨x, h1, by rw [updN_ne (ne h3)]; exact h2, List.mem_append_left _ h3⟩
theorem oAt_map {x : List (Option Nat)} {g : Nat → Nat} (k : Nat) : oAt (x.map (Option.map g)) k = (oAt x k).map g := by
  unfold oAt
  rw [List.getD_eq_getElem?_getD, List.getD_eq_getElem?_getD, List.getElem?_map]
  cases x[k]? with
  | none => rfl
  | some o => rfl
theorem Iso.at {R R' : Rows'} {g : Nat → Nat} (i : Iso R R' g) {a : Nat} (ha : a < R.length) (k : Nat) : oAt (rAt R' (g a)) k = (oAt (rAt R a) k).map g := by
  rw [i.row a ha, oAt_map]
/-- all rooms are done: the search has found just the one -/
theorem Lie.all {w n : Nat} {R R' : Rows'} {ord : List Nat} {f : Nat → Nat} (h : Lie w n R R' ord f []) (hd : ∀ a ∈ ord, Did R R' ord f a w) (hR : R.length = n) (hwid : ∀ x ∈ R, x.length = w) (hcom : ∀ b, b < n → Com R b) : ∀ a, a < n → a ∈ ord := by
  have key : ∀ b, Com R b → b ∈ ord := fun b hb => by
    induction hb with
    | zero => exact h.z.1
    | @step a k b ha hw ih =>
      have hk := way_wid hwid hw
      rcases hd a ih k hk.2 with ⟨q, _⟩ | ⟨x, q, _, hx⟩
      · rw [way_oAt hw] at q; cases q
      · rw [way_oAt hw] at q
        cases q
        exact hx
  exact fun a ha => key a (hcom a ha)
theorem Lie.found {w n : Nat} {R R' : Rows'} {ord : List Nat} {f : Nat → Nat} (h : Lie w n R R' ord f []) (hd : ∀ a ∈ ord, Did R R' ord f a w) (hR : R.length = n) (hR' : R'.length = n) (hwid : ∀ x ∈ R, x.length = w) (hwid' : ∀ x ∈ R', x.length = w) (hcom : ∀ b, b < n → Com R b) :
    (∃ g, Iso R R' g) ↔ (unl (ord.map fun a => ((f a : Nat) : Int))).length = n := by
  have all := h.all hd hR hwid hcom
  have hl : ord.length = n := by
    refine Nat.le_antisymm h.len ?_
    have := nodup_le (List.range n) ord List.nodup_range fun x hx => all x (List.mem_range.mp hx)
    rwa [List.length_range] at this
  have hl2 : (ord.map fun a => ((f a : Nat) : Int)).length = n := by rw [List.length_map, hl]
  rw [show ((unl (ord.map fun a => ((f a : Nat) : Int))).length = n ↔ (ord.map fun a => ((f a : Nat) : Int)).Nodup) from by rw [← unl_all, hl2]]
  constructor
  · rintro ⟨g, i⟩
    refine List.pairwise_map.mpr (List.Pairwise.imp_of_mem (fun {a b} ha hb hne e => hne ?_) h.nd)
    have e : f a = f b := by omega
    rw [← h.iso g i a ha, ← h.iso g i b hb] at e
    exact i.inj a b (by rw [hR]; exact (h.lt a ha).1) (by rw [hR]; exact (h.lt b hb).1) e
  · intro nd
    have inj : ∀ a b, a ∈ ord → b ∈ ord → f a = f b → a = b := fun a b ha hb e => by
      obtain ⟨x, hx, rfl⟩ := List.getElem_of_mem ha
      obtain ⟨y, hy, rfl⟩ := List.getElem_of_mem hb
      have : x = y := by
        refine (List.getElem_inj (h₀ := by rw [List.length_map]; exact hx) (h₁ := by rw [List.length_map]; exact hy) nd).mp ?_
        simp [e]
      subst this
      rfl
    refine ⟨f, ⟨by rw [hR, hR'], h.z.2, fun a ha => by rw [hR']; exact (h.lt a (all a (by omega))).2, fun a b ha hb e => inj a b (all a (by omega)) (all b (by omega)) e, fun a ha => ?_⟩⟩
    have ha' := all a (by omega)
    have l1 : (rAt R' (f a)).length = w := hwid' _ (rAt_mem (by rw [hR']; exact (h.lt a ha').2))
    have l2 : (rAt R a).length = w := hwid _ (rAt_mem ha)
    refine List.ext_getElem? fun k => ?_
    by_cases hk : k < w
    · rw [oAt_get (by omega), oAt_get (by rw [List.length_map]; omega), oAt_map]
      rcases hd a ha' k hk with ⟨q1, q2⟩ | ⟨b, q1, q2, _⟩
      · rw [q1, q2]; rfl
      · rw [q1, q2]; rfl
    · rw [List.getElem?_eq_none (by omega), List.getElem?_eq_none (by rw [List.length_map]; omega)]
end
end Y
end Mir

/-! Mir: a drawn yard with its map (the laws' doing yard). -/
namespace Mir
namespace Y
open PySem PySem.Spec PyProof.Rows L2 Mir
/-- a yard, and the map that it does -/
structure Dg (most : Nat) (y : Yar) (c : Cha) : Prop where
  ok : OkYar y
  n : c.n = y.d
  r : c.r = (walkY y most).2
  cha : OkCha c
  few : c.r.length ≤ most
  len : (walkY y most).1.length = c.r.length
  doe : ∃ S, Doe y.h c.n.length c.r S
  own : Own c.n.length c.r
  two : 1 < c.r.length
  d1 : 1 ≤ y.d.length
  stn : ∀ x ∈ y.h, Stands c.r x
section
variable {m : Mem} {i : Nat} {P : D → Mem → Prop}
end
theorem nth_zero {n : Nat} {ord : List Nat} (h : Ord n ord) : nth ord 0 = 0 := by
  unfold nth
  rw [List.getD_eq_getElem?_getD, h.head]
  rfl
theorem reR_len {ord : List Nat} {r : Rows'} : (reR ord r).length = ord.length := by unfold reR; simp
/-- a yard does the map in another order, too -/
theorem Doe.re {hs : List Hea} {w : Nat} {r : Rows'} {S : Nat → List Int} (d : Doe hs w r S) (ok : OkRows w r) {ord : List Nat} (h : Ord r.length ord) : Doe hs w (reR ord r) fun a => S (nth ord a) := by
  have hl := h.len
  have lt : ∀ a, a < (reR ord r).length → nth ord a < r.length := fun a ha => h.mem.mp (List.mem_of_getElem? (nth_lt (by rw [reR_len] at ha; exact ha)))
  refine ⟨by rw [nth_zero h]; exact d.zero, fun a b ha hb e => ?_, fun a k b hw => d.go _ _ _ (way_re' ok h hw), fun a k ha hk hno => d.no _ k (lt a ha) hk ?_⟩
  · rw [reR_len] at ha hb
    have := d.inj _ _ (h.mem.mp (List.mem_of_getElem? (nth_lt ha))) (h.mem.mp (List.mem_of_getElem? (nth_lt hb))) e
    rw [← h.idx (nth_lt ha), ← h.idx (nth_lt hb), this]
  · have e : rAt (reR ord r) a = reRow ord (rAt r (nth ord a)) := by
      have ha' : a < ord.length := by rw [reR_len] at ha; exact ha
      have h1 : (reR ord r)[a]? = some (reRow ord (rAt r (nth ord a))) := by
        unfold reR
        rw [List.getElem?_map, nth_lt ha']
        rfl
      have h2 := rAt_some ha
      rw [h1] at h2
      exact (Option.some.inj h2).symm
    rw [e] at hno
    unfold reRow at hno
    rw [oAt_map] at hno
    cases hq : oAt (rAt r (nth ord a)) k with
    | none => rfl
    | some b => rw [hq] at hno; cases hno
instance decYar : DecidableEq Yar := fun a b => decidable_of_iff (a.d = b.d ∧ a.h = b.h) (by cases a; cases b; simp)
end Y
end Mir

/-! Mir: woven, told as a yard or a paper; a map that parts and bars, in another order. -/
namespace Mir
namespace Y
open PySem PySem.Spec PyProof.Rows L2 Mir
open Sx (sm)
theorem Stn.un {w : Nat} {r : Rows'} {x : Hea} {L : Nat → Int} (ok : OkRows w r) {ord : List Nat} (h : Ord r.length ord) (st : Stn (reR ord r) x L) : Stn r x fun a => L (ord.idxOf a) := by
  have wy : ∀ {a k b : Nat}, way r a k b → way (reR ord r) (ord.idxOf a) k (ord.idxOf b) := fun {a k b} hw => (way_re h (ok.rng _ _ _ hw)).mpr ⟨fun _ => hw, (way_wid ok.wid hw).1⟩
  have h0 := h.idx h.head
  refine ⟨⟨?_, fun a k b hw => st.lev.w _ _ _ (wy hw)⟩, fun a ha => ?_, fun a k b hw => st.en _ _ _ (wy hw)⟩
  · show L (ord.idxOf 0) = 0
    rw [h0]
    exact st.lev.z
  · refine st.pos _ ?_
    rw [reR_len]
    exact List.idxOf_lt_length_iff.mpr (h.mem.mpr ha)
theorem Own.un {w : Nat} {r : Rows'} (ok : OkRows w r) {ord : List Nat} (h : Ord r.length ord) (o : Own w (reR ord r)) : Own w r := by
  have lt : ∀ {a : Nat}, a < r.length → ord.idxOf a < (reR ord r).length := fun {a} ha => by
    rw [reR_len]
    exact List.idxOf_lt_length_iff.mpr (h.mem.mpr ha)
  refine ⟨fun a b ha hb hne => ?_, fun a k ha hk hno => ?_⟩
  · obtain ⟨x, L, st, h1⟩ := o.part _ _ (lt ha) (lt hb) (fun e => hne (by
      have g1 := h.get ha
      rw [e, h.get hb] at g1
      exact (Option.some.inj g1).symm))
    exact ⟨x, _, st.un ok h, h1⟩
  · have hno' : hasW (reR ord r) k (ord.idxOf a) = false := by
      cases hh : hasW (reR ord r) k (ord.idxOf a) with
      | false => rfl
      | true =>
        obtain ⟨b, hw⟩ := hasW_iff.mp hh
        have hw' := way_re' ok h hw
        have e : nth ord (ord.idxOf a) = a := by
          unfold nth
          rw [List.getD_eq_getElem?_getD, h.get ha]
          rfl
        rw [e] at hw'
        rw [hasW_iff.mpr ⟨_, hw'⟩] at hno
        cases hno
    obtain ⟨x, L, st, h1⟩ := o.bar _ k (lt ha) hk hno'
    exact ⟨x, _, st.un ok h, h1⟩
theorem own_of {w : Nat} {r : Rows'} {xs : List Hea} (hst : ∀ x ∈ xs, Stands r x) (hp : ∀ a b, a < b → b < r.length → ParL r xs a b) (hb : ∀ a k, a < r.length → k < w → hasW r k a = false → BarL r xs a k) : Own w r := by
  refine ⟨fun a b ha hb' hne => ?_, fun a k ha hk hno => ?_⟩
  · rcases Nat.lt_or_gt_of_ne hne with hlt | hlt
    · obtain ⟨x, hx, q⟩ := hp a b hlt hb'
      exact ⟨x, _, levOf_stn (hst x hx), q⟩
    · obtain ⟨x, hx, q⟩ := hp b a hlt ha
      exact ⟨x, _, levOf_stn (hst x hx), fun e => q e.symm⟩
  · obtain ⟨x, hx, q⟩ := hb a k ha hk hno
    exact ⟨x, _, levOf_stn (hst x hx), q⟩
theorem own_doe {w : Nat} {r : Rows'} {xs : List Hea} (ok : OkRows w r) (fit : Fit w xs) (hst : ∀ x ∈ xs, Stands r x) (h : ∃ S, Doe xs w r S) : Own w r :=
  own_of hst ((doe_iff ok fit hst).mp h).1 ((doe_iff ok fit hst).mp h).2
section
variable {hs : List Hea} {w : Nat} {r : Rows'} {S : Nat → List Int}
theorem Doe.good (d : Doe hs w r S) (s0 : ∀ x ∈ hs, 0 ≤ x.s) (l0 : ∀ x ∈ hs, ∀ k, 0 ≤ lk x k) : ∀ a, Com r a → (S a).length = hs.length ∧ ∀ i, i < hs.length → 0 ≤ (S a).getD i 0 := by
  intro a ha
  induction ha with
  | zero =>
    rw [d.zero]
    refine ⟨by simp, fun i hi => ?_⟩
    rw [List.getD_eq_getElem?_getD, List.getElem?_map, List.getElem?_eq_getElem hi]
    exact s0 _ (List.getElem_mem hi)
  | @step a b k h hw ih =>
    obtain ⟨h1, h2⟩ := d.go _ _ _ hw
    rw [← h2]
    refine ⟨led_len ih.1, fun i hi => ?_⟩
    have hx : hs[i]? = some hs[i] := List.getElem?_eq_getElem hi
    rw [led_at ih.1 hx]
    have q1 := there_at ih.1 hx h1
    have q2 := fun k => l0 _ (List.getElem_mem hi) k
    first
      | (have q3 := q2 k; omega)
      | (have q3 := q2 b; omega)
      | (have q3 := q2 a; omega)
theorem Doe.stn (d : Doe hs w r S) (ok : OkRows w r) (fit : Fit w hs) (s0 : ∀ x ∈ hs, 0 ≤ x.s) (l0 : ∀ x ∈ hs, ∀ k, 0 ≤ lk x k) {i : Nat} {x : Hea} (hx : hs[i]? = some x) : Stn r x fun a => (S a).getD i 0 - x.s := by
  have hi := (List.getElem?_eq_some_iff.mp hx).1
  have hm := List.mem_of_getElem? hx
  refine ⟨⟨?_, fun a k b hw => ?_⟩, fun a ha => ?_, fun a k b hw => ?_⟩
  · show (S 0).getD i 0 - x.s = 0
    rw [d.zero, List.getD_eq_getElem?_getD, List.getElem?_map, hx]
    show x.s - x.s = 0
    omega
  · have g := d.good s0 l0 a (ok.com a (way_wid ok.wid hw).1)
    obtain ⟨h1, h2⟩ := d.go _ _ _ hw
    have := led_at (k := k) g.1 hx
    rw [h2] at this
    show (S b).getD i 0 - x.s = (S a).getD i 0 - x.s + eAt (effL x) k
    rw [effL_at (fit x hm).1 (fit x hm).2 (way_wid ok.wid hw).2]
    omega
  · have g := d.good s0 l0 a (ok.com a ha)
    have := g.2 i hi
    show 0 ≤ x.s + ((S a).getD i 0 - x.s)
    omega
  · have g := d.good s0 l0 a (ok.com a (way_wid ok.wid hw).1)
    obtain ⟨h1, h2⟩ := d.go _ _ _ hw
    have := there_at g.1 hx h1
    show tk x k ≤ x.s + ((S a).getD i 0 - x.s)
    omega
theorem Doe.own (d : Doe hs w r S) (ok : OkRows w r) (fit : Fit w hs) (s0 : ∀ x ∈ hs, 0 ≤ x.s) (l0 : ∀ x ∈ hs, ∀ k, 0 ≤ lk x k) : Own w r :=
  own_doe ok fit (fun x hx => by
    obtain ⟨i, hi⟩ := List.mem_iff_getElem?.mp hx
    exact ⟨_, d.stn ok fit s0 l0 hi⟩) ⟨S, d⟩
end
end Y
end Mir

/-! Mir: the least yard. -/
namespace Mir
namespace Y
open PySem PySem.Spec PyProof.Rows L2 Mir
open Sx (sm)
/-- a step is shown behind a row -/
def Shw (r : Rows') (w : Nat) (ks : List Nat) (k : Nat) : Prop := ∃ U g wt, 0 < U ∧ Stp' r w U g wt k (gon w ks)
/-- a heap that bars behind some row -/
def Hpd (r : Rows') (w : Nat) (x : Hea) : Prop := ∃ k gone, Bhd r w x k gone
def Bar (w : Nat) (x : Hea) (ks : List Nat) (k : Nat) : Prop := cntR w x ks < tk x k
instance (w : Nat) (x : Hea) (ks : List Nat) (k : Nat) : Decidable (Bar w x ks k) := by unfold Bar; infer_instance
theorem Hpd.bears {r : Rows'} {w : Nat} {x : Hea} (h : Hpd r w x) : Bears r x := by obtain ⟨_, _, h⟩ := h; exact h.bears
theorem Hpd.t {r : Rows'} {w : Nat} {x : Hea} (h : Hpd r w x) : x.t.length = w := by obtain ⟨_, _, h⟩ := h; exact h.t
theorem Hpd.l {r : Rows'} {w : Nat} {x : Hea} (h : Hpd r w x) : x.l.length = w := by obtain ⟨_, _, h⟩ := h; exact h.l
theorem Shw.free {r : Rows'} {w k : Nat} {ks : List Nat} {x : Hea} (ok : OkRows w r) (s : Shw r w ks k) (h : Bears r x) : ¬ Bar w x ks k := fun hb => by
  obtain ⟨U, g, wt, hU, st⟩ := s
  have := st.enough ok hU h
  unfold Bar at hb
  omega
theorem Shw.gon {r : Rows'} {w k : Nat} {ks ls : List Nat} (h : gon w ks = gon w ls) (s : Shw r w ks k) : Shw r w ls k := by
  obtain ⟨U, g, wt, hU, st⟩ := s
  exact ⟨U, g, wt, hU, h ▸ st⟩
section
variable {m : Mem} {c : Cha} {P : D → Mem → Prop}
/-- heaps by which the rows up to a length are told -/
structure Ly (r : Rows') (w many : Nat) (hs : List Hea) : Prop where
  hp : ∀ x ∈ hs, Hpd r w x
  all : ∀ ks, ks.length < many → (∀ k ∈ ks, k < w) → (∀ j, j < ks.length → Shw r w (ks.take j) (nth ks j)) → ∀ k, k < w → (∃ x ∈ hs, Bar w x ks k) ∨ Shw r w ks k
/-- one row asked about -/
def Askd (r : Rows') (w : Nat) (hs : List Hea) (rs2 : List (List Nat)) (z : List Nat) (k : Nat) : Prop := (∃ x ∈ hs, Bar w x z k) ∨ (Shw r w z k ∧ ∃ z2 ∈ rs2, gon w z2 = gon w (z ++ [k]))
theorem Askd.more {r : Rows'} {w k : Nat} {hs hs' : List Hea} {rs rs' : List (List Nat)} {z : List Nat} (h : Askd r w hs rs z k) (h1 : ∀ x ∈ hs, x ∈ hs') (h2 : ∀ z ∈ rs, z ∈ rs') : Askd r w hs' rs' z k := by
  rcases h with ⟨x, hx, q⟩ | ⟨s, z2, hz, q⟩
  · exact .inl ⟨x, h1 x hx, q⟩
  · exact .inr ⟨s, z2, h2 z2 hz, q⟩
end
end Y
end Mir

/-! Mir: what is told of all pairs of rooms, in a dict. -/
namespace Mir
namespace Y
open PySem PySem.Spec PyProof.Rows L2 Mir
open Sx (sm)
/-- told of two rooms -/
inductive Tp where
  | hp (x : Hea)
  | go (g : Nat → Int) (U : Int)
structure OkTp (r : Rows') (w a b : Nat) (t : Tp) : Prop where
  hp : ∀ x, t = .hp x → ∃ L, Prt r w x L a b
  go : ∀ g U, t = .go g U → FrB (2 ^ 1061) U g ∧ GoP r w U g a b
/-- no heap that stands parts the rooms -/
def Evn (r : Rows') (a b : Nat) : Prop := ∀ x L, Stn r x L → cntH x L a = cntH x L b
theorem Evn.refl (r : Rows') (a : Nat) : Evn r a a := fun _ _ _ => rfl
theorem Evn.symm {r : Rows'} {a b : Nat} (h : Evn r a b) : Evn r b a := fun x L s => (h x L s).symm
theorem Evn.trans {r : Rows'} {a b c : Nat} (h : Evn r a b) (k : Evn r b c) : Evn r a c := fun x L s => (h x L s).trans (k x L s)
/-! ### pairs of rooms as keys -/
section
variable {m : Mem} {q : Nat} {r : Rows'} {ps : List (Nat × Nat)} {f : Nat × Nat → Tp}
end
/-! ### goes turned about and added -/
theorem GoP.turn {r : Rows'} {w : Nat} {U : Int} {g : Nat → Int} {a b : Nat} (h : GoP r w U g a b) : GoP r w U (fun p => - g p) b a := by
  refine ⟨fun e => h.ne e.symm, fun x hx => ?_, fun k hk => ?_⟩
  · have := h.room x hx
    have e : net r (fun p => - g p) x = - net r g x := by
      unfold net
      rw [show (fun p => - g p * ((if x = (wy r p).2.2 then (1 : Int) else 0) - (if x = (wy r p).1 then 1 else 0))) = fun p => -1 * (g p * ((if x = (wy r p).2.2 then (1 : Int) else 0) - (if x = (wy r p).1 then 1 else 0))) from funext fun p => by rw [Int.neg_mul, Int.neg_one_mul], Sx.sm_mul, Int.neg_one_mul]
    rw [e, this, ← Int.mul_neg]
    congr 1
    omega
  · have := h.deed k hk
    have e : dsm r (fun p => - g p) k = - dsm r g k := by
      unfold dsm
      rw [show (fun p => - g p * (if k = (wy r p).2.1 then (1 : Int) else 0)) = fun p => -1 * (g p * (if k = (wy r p).2.1 then (1 : Int) else 0)) from funext fun p => by rw [Int.neg_mul, Int.neg_one_mul], Sx.sm_mul, Int.neg_one_mul]
    rw [e, this]
    rfl
theorem GoP.add {r : Rows'} {w : Nat} {U V : Int} {g h : Nat → Int} {a b c : Nat} (h1 : GoP r w U g a b) (h2 : GoP r w V h b c) (hac : a ≠ c) : GoP r w (U * V) (fun p => V * g p + U * h p) a c := by
  refine ⟨hac, fun x hx => ?_, fun k hk => ?_⟩
  · have e1 := h1.room x hx
    have e2 := h2.room x hx
    have e : net r (fun p => V * g p + U * h p) x = V * net r g x + U * net r h x := by
      unfold net
      rw [← Sx.sm_mul, ← Sx.sm_mul, ← Sx.sm_add]
      refine Sx.sm_congr fun p _ => ?_
      rw [Int.add_mul, Int.mul_assoc, Int.mul_assoc]
    rw [e, e1, e2]
    generalize (if x = b then (1 : Int) else 0) = tb
    generalize (if x = a then (1 : Int) else 0) = ta
    generalize (if x = c then (1 : Int) else 0) = tc
    grind
  · have e1 := h1.deed k hk
    have e2 := h2.deed k hk
    have e : dsm r (fun p => V * g p + U * h p) k = V * dsm r g k + U * dsm r h k := by
      unfold dsm
      rw [← Sx.sm_mul, ← Sx.sm_mul, ← Sx.sm_add]
      refine Sx.sm_congr fun p _ => ?_
      rw [Int.add_mul, Int.mul_assoc, Int.mul_assoc]
    rw [e, e1, e2]
    simp
end Y
end Mir

/-! Mir: heaps that bear, steps that are shown, of a map in another order. -/
namespace Mir
namespace Y
open PySem PySem.Spec PyProof.Rows L2 Mir
open Sx (sm)
section
variable {r : Rows'} {w : Nat} {ord : List Nat}
theorem nth_idx (ho : Ord r.length ord) {a : Nat} (ha : a < r.length) : nth ord (ord.idxOf a) = a := by
  unfold nth
  rw [List.getD_eq_getElem?_getD, ho.get ha]
  rfl
theorem idx_nth (ho : Ord r.length ord) {i : Nat} (hi : i < r.length) : ord.idxOf (nth ord i) = i := ho.idx (nth_lt (by rw [ho.len]; exact hi))
theorem nth_rng (ho : Ord r.length ord) {i : Nat} (hi : i < r.length) : nth ord i < r.length := ho.mem.mp (List.mem_of_getElem? (nth_lt (by rw [ho.len]; exact hi)))
theorem idx_lt (ho : Ord r.length ord) {a : Nat} (ha : a < r.length) : ord.idxOf a < r.length := by
  have := List.idxOf_lt_length_iff.mpr (ho.mem.mpr ha)
  rwa [ho.len] at this
theorem way_idx (ok : OkRows w r) (ho : Ord r.length ord) {a k b : Nat} (hw : way r a k b) : way (reR ord r) (ord.idxOf a) k (ord.idxOf b) := (way_re ho (ok.rng _ _ _ hw)).mpr ⟨fun _ => hw, (way_wid ok.wid hw).1⟩
theorem Pth.re {e : Nat → Int} (ok : OkRows w r) (ho : Ord r.length ord) {a : Nat} {s : Int} (p : Pth r e a s) : Pth (reR ord r) e (ord.idxOf a) s := by
  induction p with
  | zero =>
    rw [ho.idx ho.head]
    exact .zero
  | step _ hw ih => exact .step ih (way_idx ok ho hw)
theorem Pth.un {e : Nat → Int} (ok : OkRows w r) (ho : Ord r.length ord) {i : Nat} {s : Int} (p : Pth (reR ord r) e i s) : Pth r e (nth ord i) s := by
  induction p with
  | zero =>
    rw [nth_zero ho]
    exact .zero
  | step _ hw ih => exact .step ih (way_re' ok ho hw)
theorem Bears.re {x : Hea} (ok : OkRows w r) (ho : Ord r.length ord) (h : Bears r x) : Bears (reR ord r) x := by
  obtain ⟨L, hL, he⟩ := h
  refine ⟨fun i => L (nth ord i), ⟨?_, fun i k j hw => hL.w _ _ _ (way_re' ok ho hw), fun i hi => ?_⟩, fun i k j hw => he _ _ _ (way_re' ok ho hw)⟩
  · show L (nth ord 0) = 0
    rw [nth_zero ho]
    exact hL.z
  · rw [reR_len, ho.len] at hi
    have := (hL.p _ (nth_rng ho hi)).re ok ho
    rwa [idx_nth ho hi] at this
theorem Bears.un {x : Hea} (ok : OkRows w r) (ho : Ord r.length ord) (h : Bears (reR ord r) x) : Bears r x := by
  obtain ⟨L, hL, he⟩ := h
  refine ⟨fun a => L (ord.idxOf a), ⟨?_, fun a k b hw => hL.w _ _ _ (way_idx ok ho hw), fun a ha => ?_⟩, fun a k b hw => he _ _ _ (way_idx ok ho hw)⟩
  · show L (ord.idxOf 0) = 0
    rw [ho.idx ho.head]
    exact hL.z
  · have := (hL.p (ord.idxOf a) (by rw [reR_len, ho.len]; exact idx_lt ho ha)).un ok ho
    rwa [nth_idx ho ha] at this
end
/-! ### sums over the ways -/
theorem zipIdx_pw {α : Type} (l : List α) : l.zipIdx.Pairwise fun p q => p.2 ≠ q.2 := by
  have h : (l.zipIdx.map Prod.snd).Nodup := by
    rw [List.zipIdx_map_snd]
    exact List.nodup_range'
  exact List.pairwise_map.mp h
theorem wayL_nodup (r : Rows') : (wayL r).Nodup := by
  unfold wayL
  rw [List.Nodup, List.pairwise_flatMap]
  refine ⟨fun p hp => ?_, ?_⟩
  · unfold wayOf
    rw [List.pairwise_filterMap]
    refine (zipIdx_pw _).imp fun {a b} hne x hx y hy e => hne ?_
    subst e
    simp only [Option.map_eq_some_iff] at hx hy
    obtain ⟨u, _, rfl⟩ := hx
    obtain ⟨v, _, e⟩ := hy
    have := congrArg (fun z : Nat × Nat × Nat => z.2.1) e
    exact this.symm
  · refine (zipIdx_pw _).imp fun {a b} hne x hx y hy e => hne ?_
    subst e
    unfold wayOf at hx hy
    rw [List.mem_filterMap] at hx hy
    obtain ⟨u, _, hu⟩ := hx
    obtain ⟨v, _, hv⟩ := hy
    simp only [Option.map_eq_some_iff] at hu hv
    obtain ⟨_, _, rfl⟩ := hu
    obtain ⟨_, _, e⟩ := hv
    have := congrArg (fun z : Nat × Nat × Nat => z.1) e
    exact this.symm
theorem sm_ways (r : Rows') (F : Nat × Nat × Nat → Int) : (sm (wayL r).length fun p => F (wy r p)) = ((wayL r).map F).sum := by
  have key : ∀ (l : List (Nat × Nat × Nat)) (n : Nat), n ≤ l.length → (sm n fun p => F (l.getD p (0, 0, 0))) = ((l.take n).map F).sum := by
    intro l n
    induction n with
    | zero => intro _; simp [sm]
    | succ n ih =>
      intro hn
      show sm n _ + F (l.getD n (0, 0, 0)) = _
      rw [ih (by omega), List.take_add_one, List.getD_eq_getElem?_getD, List.getElem?_eq_getElem (by omega : n < l.length)]
      simp only [List.map_append, List.sum_append, Option.toList_some, List.map_cons, List.map_nil, List.sum_cons, List.sum_nil, Option.getD_some]
      omega
  have := key (wayL r) _ (Nat.le_refl _)
  rw [List.take_length] at this
  exact this
theorem perm_sum {l l' : List Int} (h : l.Perm l') : l.sum = l'.sum := by
  induction h with
  | nil => rfl
  | cons x _ ih => rw [List.sum_cons, List.sum_cons, ih]
  | swap x y l => rw [List.sum_cons, List.sum_cons, List.sum_cons, List.sum_cons]; omega
  | trans _ _ h1 h2 => rw [h1, h2]
/-- a way of the reordered map, told in the first one -/
def bk (ord : List Nat) (v : Nat × Nat × Nat) : Nat × Nat × Nat := (nth ord v.1, v.2.1, nth ord v.2.2)
section
variable {r : Rows'} {w : Nat} {ord : List Nat}
theorem nth_inj (ho : Ord r.length ord) {i j : Nat} (hi : i < r.length) (hj : j < r.length) (h : nth ord i = nth ord j) : i = j := by
  rw [← idx_nth ho hi, ← idx_nth ho hj, h]
theorem way_in (ok : OkRows w r) (ho : Ord r.length ord) {v : Nat × Nat × Nat} (h : v ∈ wayL (reR ord r)) : v.1 < r.length ∧ v.2.2 < r.length ∧ way r (nth ord v.1) v.2.1 (nth ord v.2.2) := by
  have ok2 := ok.re ho
  have hw : way (reR ord r) v.1 v.2.1 v.2.2 := wayL_mem.mp h
  have h1 := (way_wid ok2.wid hw).1
  have h2 := ok2.rng _ _ _ hw
  rw [reR_len, ho.len] at h1 h2
  exact ⟨h1, h2, way_re' ok ho hw⟩
theorem ways_perm (ok : OkRows w r) (ho : Ord r.length ord) : ((wayL (reR ord r)).map (bk ord)).Perm (wayL r) := by
  refine (List.perm_ext_iff_of_nodup ?_ (wayL_nodup r)).mpr fun u => ?_
  · rw [List.Nodup, List.pairwise_map]
    refine List.Pairwise.imp_of_mem (fun {a b} ha hb hne e => hne ?_) (wayL_nodup (reR ord r))
    obtain ⟨a1, a2, _⟩ := way_in ok ho ha
    obtain ⟨b1, b2, _⟩ := way_in ok ho hb
    have e1 := nth_inj ho a1 b1 (congrArg (fun z : Nat × Nat × Nat => z.1) e)
    have e2 : a.2.1 = b.2.1 := by
      show (bk ord a).2.1 = (bk ord b).2.1
      rw [e]
    have e3 := nth_inj ho a2 b2 (congrArg (fun z : Nat × Nat × Nat => z.2.2) e)
    exact Prod.ext e1 (Prod.ext e2 e3)
  · rw [List.mem_map]
    constructor
    · rintro ⟨v, hv, rfl⟩
      exact wayL_mem.mpr (way_in ok ho hv).2.2
    · intro hu
      obtain ⟨a, k, b⟩ := u
      have hw := wayL_mem.mp hu
      refine ⟨(ord.idxOf a, k, ord.idxOf b), wayL_mem.mpr (way_idx ok ho hw), ?_⟩
      unfold bk
      rw [nth_idx ho (way_wid ok.wid hw).1, nth_idx ho (ok.rng _ _ _ hw)]
theorem sm_re (ok : OkRows w r) (ho : Ord r.length ord) (F F' : Nat × Nat × Nat → Int) (h : ∀ v ∈ wayL (reR ord r), F' v = F (bk ord v)) : (sm (wayL (reR ord r)).length fun p => F' (wy (reR ord r) p)) = sm (wayL r).length fun p => F (wy r p) := by
  rw [sm_ways, sm_ways, List.map_congr_left h, show (wayL (reR ord r)).map (fun v => F (bk ord v)) = ((wayL (reR ord r)).map (bk ord)).map F by rw [List.map_map]; rfl]
  exact perm_sum ((ways_perm ok ho).map F)
theorem net_re (ok : OkRows w r) (ho : Ord r.length ord) (G : Nat × Nat × Nat → Int) {i : Nat} (hi : i < r.length) : net (reR ord r) (fun p => G (bk ord (wy (reR ord r) p))) i = net r (fun p => G (wy r p)) (nth ord i) := by
  unfold net
  refine sm_re ok ho (fun u => G u * ((if nth ord i = u.2.2 then 1 else 0) - (if nth ord i = u.1 then 1 else 0))) (fun v => G (bk ord v) * ((if i = v.2.2 then 1 else 0) - (if i = v.1 then 1 else 0))) fun v hv => ?_
  obtain ⟨h1, h2, _⟩ := way_in ok ho hv
  have e1 : (i = v.2.2) ↔ (nth ord i = (bk ord v).2.2) := ⟨fun e => by rw [e]; rfl, fun e => nth_inj ho hi h2 e⟩
  have e2 : (i = v.1) ↔ (nth ord i = (bk ord v).1) := ⟨fun e => by rw [e]; rfl, fun e => nth_inj ho hi h1 e⟩
  simp only [e1, e2]
theorem dsm_re (ok : OkRows w r) (ho : Ord r.length ord) (G : Nat × Nat × Nat → Int) (k : Nat) : dsm (reR ord r) (fun p => G (bk ord (wy (reR ord r) p))) k = dsm r (fun p => G (wy r p)) k := by
  unfold dsm
  exact sm_re ok ho (fun u => G u * (if k = u.2.1 then 1 else 0)) (fun v => G (bk ord v) * (if k = v.2.1 then 1 else 0)) fun v _ => rfl
theorem hasW_re (ok : OkRows w r) (ho : Ord r.length ord) {k i : Nat} (hi : i < r.length) : hasW (reR ord r) k i = hasW r k (nth ord i) := by
  rw [Bool.eq_iff_iff, hasW_iff, hasW_iff]
  constructor
  · rintro ⟨j, h⟩
    exact ⟨_, way_re' ok ho h⟩
  · rintro ⟨b, h⟩
    have := way_idx ok ho h
    rw [idx_nth ho hi] at this
    exact ⟨_, this⟩
theorem sm_ord (ho : Ord r.length ord) (f : Nat → Int) : (sm r.length fun i => f (nth ord i)) = sm r.length f := by
  have key : ∀ (l : List Nat) (n : Nat), n ≤ l.length → (sm n fun p => f (nth l p)) = ((l.take n).map f).sum := by
    intro l n
    induction n with
    | zero => intro _; simp [sm]
    | succ n ih =>
      intro hn
      show sm n _ + f (nth l n) = _
      unfold nth
      unfold nth at ih
      rw [ih (by omega), List.take_add_one, List.getD_eq_getElem?_getD, List.getElem?_eq_getElem (by omega : n < l.length)]
      simp only [List.map_append, List.sum_append, Option.toList_some, List.map_cons, List.map_nil, List.sum_cons, List.sum_nil, Option.getD_some]
      omega
  have e1 := key ord r.length (by rw [ho.len]; exact Nat.le_refl _)
  have e2 := key (List.range r.length) r.length (by simp)
  rw [List.take_of_length_le (by rw [ho.len]; exact Nat.le_refl _)] at e1
  rw [List.take_of_length_le (by simp)] at e2
  rw [e1, perm_sum (ho.perm.map f), ← e2]
  refine Sx.sm_congr fun i hi => ?_
  unfold nth
  rw [List.getD_eq_getElem?_getD, List.getElem?_range hi]
  rfl
theorem Stp'.re (ok : OkRows w r) (ho : Ord r.length ord) {U : Int} {G : Nat × Nat × Nat → Int} {wt : Nat → Int} {k : Nat} {gone : List Int} (h : Stp' r w U (fun p => G (wy r p)) wt k gone) :
    Stp' (reR ord r) w U (fun p => G (bk ord (wy (reR ord r) p))) (fun i => wt (nth ord i)) k gone := by
  have hl : (reR ord r).length = r.length := by rw [reR_len, ho.len]
  refine ⟨⟨fun i hi => h.wts.nn _ (nth_rng ho (by omega)), fun i hi hno => ?_, ?_, fun i hi => ?_⟩, fun p hp => ?_, fun j hj => ?_⟩
  · rw [hasW_re ok ho (by omega)] at hno
    exact h.wts.out _ (nth_rng ho (by omega)) hno
  · rw [hl, sm_ord ho wt]
    exact h.wts.one
  · rw [net_re ok ho G (by omega), h.wts.room _ (nth_rng ho (by omega))]
    have e : (nth ord i = 0) ↔ (i = 0) := ⟨fun e => nth_inj ho (by omega) ok.pos (by rw [e, nth_zero ho]), fun e => by rw [e, nth_zero ho]⟩
    simp only [e]
  · have hv := List.mem_of_getElem? (wy_get hp)
    have hw := (way_in ok ho hv).2.2
    have hm : bk ord (wy (reR ord r) p) ∈ wayL r := wayL_mem.mpr hw
    obtain ⟨p0, h0⟩ := List.mem_iff_getElem?.mp hm
    have hlt := (List.getElem?_eq_some_iff.mp h0).1
    have := h.nn p0 hlt
    have e := wy_get hlt
    rw [h0] at e
    rw [Option.some.inj e]
    exact this
  · rw [dsm_re ok ho G j]
    exact h.deed j hj
theorem Bhd.re (ok : OkRows w r) (ho : Ord r.length ord) {x : Hea} {k : Nat} {gone : List Int} (h : Bhd r w x k gone) : Bhd (reR ord r) w x k gone := ⟨h.t, h.l, h.s0, h.t0, h.l0, h.bears.re ok ho, h.lt⟩
theorem Bhd.un (ok : OkRows w r) (ho : Ord r.length ord) {x : Hea} {k : Nat} {gone : List Int} (h : Bhd (reR ord r) w x k gone) : Bhd r w x k gone := ⟨h.t, h.l, h.s0, h.t0, h.l0, h.bears.un ok ho, h.lt⟩
end
end Y
end Mir

/-! Mir: dicts made of lists of pairs. -/
namespace Mir
namespace Y
open PySem PySem.Spec PyProof.Rows L2 Mir
section
variable {m : Mem} {r : Rows'} {w : Nat} {ord : List Nat}
end
end Y
end Mir

/-! Mir: the other family of drawing functions. -/
namespace Mir
namespace V
open PySem PySem.Spec PyProof.Rows L2 Mir Mir.Y
theorem gIn_rstrs {x : Str} {ys : List Str} {neg : Bool} {m : Mem} {j : Nat} (h : m[j]? = some (.lst (ys.map .str))) : gIn neg (.str x) (.ref j) m = .ok (.bl (decide (x ∈ ys) ^^ neg)) m := by
  have e : lstOf m (.ref j) = some (ys.map .str) := by simp [lstOf, h, lstC]
  show bR neg m (inOf m (.str x) (.ref j)) = _
  unfold inOf
  simp only [e, flatIn, flatD, mapO_strs, inV_strs, bR]
theorem bSorted_rstrs {xs : List Str} {m : Mem} {j : Nat} (hj : m[j]? = some (.lst (xs.map .str))) (h : xs.length < 64) : bSortedS false [.ref j] m = .ok (.lst ((sortS xs).map .str)) m := by
  unfold bSortedS
  have e : (lstOf m (.ref j)).bind (mapO strOf) = some xs := by
    have e1 : lstOf m (.ref j) = some (xs.map .str) := by simp [lstOf, hj, lstC]
    rw [e1]
    show mapO strOf (xs.map .str) = _
    have := mapO_map (f := strOf) (g := D.str) (h := id) (fun _ => rfl) xs
    rw [List.map_id] at this
    exact this
  simp only [e, if_pos h, mkL_f]
/-- the letter of a number -/
def letS (s : Nat) : Str := SX.S [s + 97]
theorem letS_nm {s : Nat} (h : s < 26) : Nm (letS s) := by
  refine ⟨by unfold letS; rw [SX.S_len]; simp, by unfold letS; rw [SX.S_len]; simp, fun c hc => ?_, fun hk => ?_⟩
  · have : c = s + 97 := by
      have hc' : c ∈ [s + 97] := hc
      simpa using hc'
    rw [this]
    exact (letL_mem _).mpr ⟨by omega, by omega⟩
  · have := (kept_len hk).1
    unfold letS at this
    rw [SX.S_len] at this
    simp at this
theorem letS_inj {s t : Nat} (h : letS s = letS t) : s = t := by
  have := SX.S_inj h
  simpa using this
theorem nodup_sub : ∀ {l l' : List Str}, l.Nodup → (∀ x ∈ l, x ∈ l') → l.length ≤ l'.length
  | [], _, _, _ => Nat.zero_le _
  | x :: l, l', nd, h => by
    have h1 := List.nodup_cons.mp nd
    have hx := h x List.mem_cons_self
    have ih := nodup_sub (l := l) (l' := l'.erase x) h1.2 (fun y hy => (List.mem_erase_of_ne (fun e => h1.1 (by rw [← e]; exact hy))).mpr (h y (List.mem_cons_of_mem _ hy)))
    rw [List.length_erase_of_mem hx] at ih
    have := List.length_pos_of_mem hx
    simp
    omega
/-- letters, one to six of them -/
structure Wd' (x : Str) : Prop where
  lo : 1 ≤ x.length
  hi : x.length ≤ 6
  let' : ∀ c ∈ x.cps.toList, c ∈ letL
theorem _root_.Mir.Nm.wd {x : Str} (h : Nm x) : Wd' x := ⟨h.lo, h.hi, h.let'⟩
/-- a word that isn't there yet -/
theorem spare_then {m : Mem} {q : Nat} {ns : List Str} {x : Str} {e0 e1 e2 e3 e4 e5 e6 e8 : D} {N : Env' → Mem → Prop} {Rt : D → Mem → Prop} (hq : m[q]? = some (.lst (ns.map .str))) (hl : ns.length ≤ 20) (hx : Wd' x) (h2 : e2 = .str (SX.S letL))
    (h : ∀ y e10, Wd' y → y ∉ ns → y ∉ keptW → N [some e0, some e1, some e2, some e3, some e4, some e5, some e6, some (.ref q), some e8, some (.str y), e10] m) :
    TriS (mWhile (mOr (mTest (mOp (gIn false) (mVar 9) (mVar 7))) (mTest (mOp (gIn false) (mVar 9) (mTup (mCons (mC (.str (Str.ofString "deeds"))) (mCons (mC (.str (Str.ofString "room"))) (mCons (mC (.str (Str.ofString "heap"))) (mCons (mC (.str (Str.ofString "map"))) (mCons (mC (.str (Str.ofString "yard"))) mNil))))))))) b__law_names_0 [some e0, some e1, some e2, some e3, some e4, some e5, some e6, some (.ref q), some e8, some (.str x), some (.int 0)] m) N Rt := by
  obtain ⟨Inv, hInv⟩ : ∃ I : Nat → Env' → Mem → Prop, ∀ k η m', I k η m' ↔ (m' = m ∧ ∃ (s : Nat) (y : Str), η = [some e0, some e1, some e2, some e3, some e4, some e5, some e6, some (.ref q), some e8, some (.str y), some (.int (s : Nat))] ∧ k + s = 30 ∧ Wd' y ∧ (∀ t, t + 1 < s → letS t ∈ ns) ∧ (0 < s → y = letS (s - 1)) ∧ s ≤ 21) := ⟨_, fun _ _ _ => Iff.rfl⟩
  refine while_inv Inv 30 (by omega) ((hInv _ _ _).mpr ⟨rfl, 0, x, rfl, rfl, hx, fun t ht => by omega, fun h => by omega, by omega⟩) fun k η m' hI => ?_
  obtain ⟨rfl, s, y, rfl, hks, hy, hall, hys, hs⟩ := (hInv _ _ _).mp hI
  simp [gIn_rstrs hq, gIn_kept]
  have go : y ∈ ns ∨ y ∈ keptW → TriS (b__law_names_0 [some e0, some e1, some e2, some e3, some e4, some e5, some e6, some (.ref q), some e8, some (.str y), some (.int (s : Nat))] m') (fun η2 m2 => ∃ k', k' < k ∧ Inv k' η2 m2) Rt := fun hin => by
    have hall' : ∀ t, t < s → letS t ∈ ns := fun t ht => by
      by_cases e : t + 1 < s
      · exact hall t e
      · have e2 : t = s - 1 := by omega
        have hpos : 0 < s := by omega
        rw [e2, ← hys hpos]
        rcases hin with h | h
        · exact h
        · exfalso
          rw [hys hpos] at h
          exact (letS_nm (s := s - 1) (by omega)).kept h
    have hs20 : s ≤ 20 := by
      have : ((List.range s).map letS).length ≤ ns.length := nodup_sub (by
        rw [List.Nodup, List.pairwise_map]
        exact List.Pairwise.imp (fun hne e => hne (letS_inj e)) List.nodup_range) (fun z hz => by
          obtain ⟨t, ht, rfl⟩ := List.mem_map.mp hz
          exact hall' t (List.mem_range.mp ht))
      simp at this
      omega
    have e1' : ∀ m, gMod (.int (s : Nat)) (.int 26) m = .ok (.int (s : Nat)) m := fun m => by
      have := gMod_nat (a := s) (b := 26) (by decide) m
      rw [Nat.mod_eq_of_lt (by omega)] at this
      exact this
    have e2' : ∀ m, gFdiv (.int (s : Nat)) (.int 26) m = .ok (.int 0) m := fun m => by
      rw [gFdiv_pos (by decide) (by decide)]
      have : ((s : Nat) : Int) / 26 = 0 := by omega
      rw [this]
    have e3' : ∀ m, gIx (.str (SX.S letL)) (.int (s : Nat)) m = .ok (.str (letS s)) m := fun m => gIx_let (by omega) m
    have e4' : ∀ m, gMulS (.str (letS s)) (.int 1) m = .ok (.str (letS s)) m := fun m => by
      have hl1 : (letS s).length = 1 := by unfold letS; rw [SX.S_len]; rfl
      show (if -(2 ^ 63) ≤ (1 : Int) ∧ (1 : Int) < 2 ^ 63 ∧ (letS s).length * (1 : Int).toNat ≤ sizeLine then R.ok (D.str (repS (letS s) 1)) m else R.stk) = _
      rw [if_pos ⟨by decide, by decide, by rw [hl1]; exact size_le (by decide)⟩]
      unfold repS
      simp
    simp [b__law_names_0, h2, e1', e2', e3', e4', b__law_names_0s1]
    refine ⟨k - 1, by omega, (hInv _ _ _).mpr ⟨rfl, s + 1, letS s, by rw [h2]; rfl, by omega, (letS_nm (by omega)).wd, fun t ht => hall' t (by omega), fun _ => rfl, by omega⟩⟩
  by_cases h1 : y ∈ ns
  · simp [h1]
    exact go (.inl h1)
  · by_cases h3 : y ∈ keptW
    · simp [h1, h3]
      exact go (.inr h3)
    · simp [h1, h3]
      exact h y _ hy h1 h3
theorem names_then {m : Mem} {i n : Nat} {P : D → Mem → Prop} (hf : FlowAt m i) (hn : n ≤ 20) (h : ∀ (ns : List Str) m', ns.length = n → Nms ns → Flo m m' i → P (.tup (ns.map .str)) m') : Tri (m__law_names [.ref i, .int (n : Nat)] m) P := by
  refine tri_fn rfl ?_
  simp [b__law_names, let_S, b__law_names_s1]
  refine word_then hf fun core m1 hcore hfl1 => ?_
  have hcl := hcore.lo
  have hch := hcore.hi
  simp [b__law_names_s2, bLen_str (x := core) (m := m1) (by omega)]
  refine pick_then hfl1.at (by omega) (by omega) fun a m2 ha hfl2 => ?_
  simp [b__law_names_s3]
  refine pick_then hfl2.at (by decide) (by decide) fun t m3 ht hfl3 => ?_
  simp [b__law_names_s4]
  refine pick_then hfl3.at (by decide) (by decide) fun z m4 hz hfl4 => ?_
  have hfl := ((hfl1.trans hfl2).trans hfl3).trans hfl4
  simp [b__law_names_s5]
  have hi : m4.length ≠ i := by have := hfl.at.lt; omega
  have h1 : m.length ≤ m4.length := hfl.2.1
  have hfl := hfl.push (.lst [])
  have hc1 : (m4 ++ [Cell.lst []])[m4.length]? = some (.lst (([] : List Str).map .str)) := by simp
  generalize m4 ++ [Cell.lst []] = m5 at hfl hc1
  simp [b__law_names_s6, -rng1R_int, rng_nat (n := n) (by omega)]
  obtain ⟨b, hb⟩ : ∃ b : Bool, (z = 0 ↔ b = true) ∧ D.bl (decide (z = 0)) = D.bl b := ⟨decide (z = 0), by simp, rfl⟩
  rw [hb.2]
  obtain ⟨Inv, hInv⟩ : ∃ I : Nat → Env' → Mem → Prop, ∀ k η m', I k η m' ↔ (Flo m m' i ∧ ∃ (ns : List Str) (e8 e9 e10 : Option D), η = [some (.ref i), some (.int (n : Nat)), some (.str (SX.S letL)), some (.str core), some (.int (a : Nat)), some (.int (t : Nat)), some (.bl b), some (.ref m4.length), e8, e9, e10] ∧ m'[m4.length]? = some (.lst (ns.map .str)) ∧ ns.length = k ∧ ns.Nodup ∧ ∀ x ∈ ns, Nm x) := ⟨_, fun _ _ _ => Iff.rfl⟩
  refine for_inv Inv _ ((hInv _ _ _).mpr ⟨hfl, [], _, _, _, rfl, hc1, rfl, .nil, by simp⟩) (fun k d η m6 hkd hI => ?_) (fun η m6 hI => ?_)
  · obtain ⟨hfl6, ns, e8, e9, e10, rfl, hc6, hnl, hnd, hnm⟩ := (hInv _ _ _).mp hI
    obtain ⟨hk, rfl⟩ := rng_get hkd
    simp [b__law_names_1]
    refine word_then hfl6.at fun w m7 hw hfl7 => ?_
    have hfl7 := hfl6.trans hfl7
    have hc7 : m7[m4.length]? = some (.lst (ns.map .str)) := by
      have hfx : Flo m6 m7 i := by assumption
      exact hfx.get hi hc6
    have go : ∀ (x : Str), Wd' x → TriQ (b__law_names_1s2 [some (.ref i), some (.int (n : Nat)), some (.str (SX.S letL)), some (.str core), some (.int (a : Nat)), some (.int (t : Nat)), some (.bl b), some (.ref m4.length), some (.int (k : Nat)), some (.str x), e10] m7) (Inv (k + 1)) (fun η m => TriS (b__law_names_s7 η m) (fun x m => P D.non m) P) (Inv (k + 1)) P := fun x hx => by
      simp [b__law_names_1s2, b__law_names_1s3]
      refine TriS.toQ ?_
      refine spare_then hc7 (by omega) hx rfl fun y e10 hy hy1 hy2 => ?_
      simp [b__law_names_1s4, isTy_ref hc7, append_ref hc7 (show (ns.map D.str).length < 1000000 by simp; omega)]
      refine (hInv _ _ _).mpr ⟨hfl7.put h1 hi _, ns ++ [y], _, _, _, rfl, ?_, by simp; omega, ?_, fun x hx => ?_⟩
      · rw [List.getElem?_set_self (List.getElem?_eq_some_iff.mp hc7).1]
        simp
      · exact List.nodup_append.mpr ⟨hnd, by simp, fun x hx y' hy' e => by rw [List.mem_singleton.mp hy'] at e; exact hy1 (e ▸ hx)⟩
      · rcases List.mem_append.mp hx with h | h
        · exact hnm x h
        · rw [List.mem_singleton.mp h]
          exact ⟨hy.lo, hy.hi, hy.let', hy2⟩
    cases b with
    | false =>
      simp [b__law_names_1s1]
      exact go w hw.wd
    | true =>
      have ecore : core = SX.S core.cps.toList := (S_of core).symm
      have hcln : core.cps.toList.length = core.length := cps_len core
      have h26 : (t + k) % 26 < 26 := Nat.mod_lt _ (by decide)
      have e1 : ∀ m, gMod (.int ((t : Int) + (k : Int))) (.int 26) m = .ok (.int (((t + k) % 26 : Nat) : Int)) m := fun m => by
        have := gMod_nat (a := t + k) (b := 26) (by decide) m
        simpa using this
      have sl1 : ∀ m, gSl false (.str core) none (some (a : Nat)) m = .ok (.str (SX.S (core.cps.toList.take a))) m := fun m => by
        rw [gSl_str (by omega)]
        conv => lhs; rw [ecore, cut_take]
      have sl2 : ∀ m, gSl false (.str core) (some ((a : Int) + 1)) none m = .ok (.str (SX.S (core.cps.toList.drop (a + 1)))) m := fun m => by
        rw [gSl_str (by omega), show (a : Int) + 1 = ((a + 1 : Nat) : Int) by omega]
        conv => lhs; rw [ecore, cut_drop]
      have cc : ∀ c, (⟨#[c]⟩ : Str) = SX.S [c] := fun _ => rfl
      have a1 := fun m => gAdd_str (al := false) (m := m) (x := SX.S (core.cps.toList.take a)) (y := SX.S [(t + k) % 26 + 97]) (by rw [SX.S_len, SX.S_len, List.length_singleton, List.length_take]; omega)
      have a2 := fun m => gAdd_str (al := false) (m := m) (x := SX.S (core.cps.toList.take a) ++ SX.S [(t + k) % 26 + 97]) (y := SX.S (core.cps.toList.drop (a + 1))) (by rw [slen, SX.S_len, SX.S_len, SX.S_len, List.length_singleton, List.length_take, List.length_drop]; omega)
      have gx : ∀ m, gIx (.str (SX.S letL)) (.int (((t : Int) + (k : Int)) % 26)) m = .ok (.str (SX.S [(t + k) % 26 + 97])) m := fun m => by
        have := gIx_let h26 m
        simpa [cc] using this
      simp [b__law_names_1s1, sl1, sl2, e1, gx, a1, a2]
      rw [S_append, S_append]
      refine go _ ⟨by rw [SX.S_len, List.length_append, List.length_append, List.length_take, List.length_singleton, List.length_drop]; omega, by rw [SX.S_len, List.length_append, List.length_append, List.length_take, List.length_singleton, List.length_drop]; omega, fun c hc => ?_⟩
      have hc : c ∈ core.cps.toList.take a ++ [(t + k) % 26 + 97] ++ core.cps.toList.drop (a + 1) := hc
      rcases List.mem_append.mp hc with hc | hc
      · rcases List.mem_append.mp hc with hc | hc
        · exact hcore.let' c (List.mem_of_mem_take hc)
        · rw [List.mem_singleton.mp hc]
          exact (letL_mem _).mpr ⟨by omega, by omega⟩
      · exact hcore.let' c (List.mem_of_mem_drop hc)
  · obtain ⟨hfl6, ns, e8, e9, e10, rfl, hc6, hnl, hnd, hnm⟩ := (hInv _ _ _).mp hI
    rw [rngD_length] at hnl
    simp [b__law_names_s7, bSorted_rstrs hc6 (by omega)]
    have hp := sortS_perm ns
    exact h _ m6 (by rw [hp.length_eq, hnl]) ⟨fun x hx => hnm x (hp.mem_iff.mp hx), sortS_lt hnd⟩ hfl6
theorem plain_eq {x : List (Option Nat)} {m : Mem} (hl : x.length ≤ 900) : m__law_plain_row [rowD x] m = .ok (.lst (x.map fun o => D.int (match o with | none => -1 | some b => (b : Nat)))) m := by
  have key : Tri (m__law_plain_row [rowD x] m) (fun d m' => d = .lst (x.map fun o => D.int (match o with | none => -1 | some b => (b : Nat))) ∧ m' = m) := by
    refine tri_fn rfl ?_
    simp only [rowD]
    simp [b__law_plain_row, -List.length_map]
    refine tri_map oD (fun o => D.int (match o with | none => -1 | some b => (b : Nat))) x (fun o _ => ⟨_, rfl, rfl, ?_⟩) (by omega) ⟨rfl, rfl⟩
    cases o with
    | none =>
      have e : gIx (.lst [.non, .int (-1)]) (.int 1) m = .ok (.int (-1)) m := rfl
      simp [wipeE, oD, isNon, e]
    | some b =>
      have e : gIx (.lst [.int (b : Nat), .int (-1)]) (.int 0) m = .ok (.int (b : Nat)) m := rfl
      simp [wipeE, oD, isNon, e]
  obtain ⟨d, m', e, rfl, rfl⟩ := key.ex
  exact e
theorem reordered_then {m : Mem} {i : Nat} {c : Cha} {P : D → Mem → Prop} (hf : FlowAt m i) (hr : 0 < c.r.length) (hl : c.r.length ≤ 900) (hw : ∀ x ∈ c.r, x.length ≤ 900) (hb : ∀ a k b, way c.r a k b → b < c.r.length)
    (h : ∀ ord m', Ord c.r.length ord → Flo m m' i → P (chaD ⟨c.n, reR ord c.r⟩) m') : Tri (m__law_reordered [.ref i, chaD c] m) P := by
  refine tri_fn rfl ?_
  simp [b__law_reordered, chaD, -List.length_map]
  rw [List.length_map, show (1 : Int) = ((1 : Nat) : Int) from rfl, lsRg_f (by omega) (by omega) (by omega) (by omega), rgD_nat]
  simp only [tri_ok]
  refine shuffled_then (fun k : Nat => D.int (k : Nat)) _ (List.range' 1 (c.r.length - 1)) hf rfl (by simp) (fun m' _ => by simp) (by simp; omega) fun ys m1 hp hfl => ?_
  have hyl : ys.length = c.r.length - 1 := by rw [hp.length_eq, List.length_range']
  have ho : Ord c.r.length (0 :: ys) := by
    refine ⟨?_, rfl⟩
    have e : List.range c.r.length = 0 :: List.range' 1 (c.r.length - 1) := by
      rw [List.range_eq_range']
      obtain ⟨n, hn⟩ : ∃ n, c.r.length = n + 1 := ⟨c.r.length - 1, by omega⟩
      rw [hn, List.range'_succ]
      rfl
    rw [e]
    exact hp.cons 0
  rw [cat_own (xs := [.int 0]) (own_lst _ _) (own_lst _ _) (by simp; omega)]
  have eo : [D.int 0] ++ ys.map (fun k : Nat => D.int (k : Nat)) = (0 :: ys).map fun k : Nat => D.int (k : Nat) := by simp
  rw [eo]
  generalize hord : (0 :: ys) = ord at ho
  simp [b__law_reordered_s1]
  have hi : m1.length ≠ i := by have := hfl.at.lt; omega
  have h1 : m.length ≤ m1.length := hfl.2.1
  have hfl := hfl.push (.lst [])
  have hc1 : (m1 ++ [Cell.lst []])[m1.length]? = some (.lst []) := by simp
  generalize m1 ++ [Cell.lst []] = m2 at hfl hc1
  simp [b__law_reordered_s2]
  refine for_inv (fun k η m' => (∃ e4, η = [some (.ref i), some (.tup [sT c.n, .tup (c.r.map rowD)]), some (.lst (ord.map fun k : Nat => D.int (k : Nat))), some (.ref m1.length), e4, none]) ∧ Flo m m' i ∧ m'[m1.length]? = some (.lst ((ord.take k).map fun a => rowD (reRow ord (rAt c.r a))))) _ ⟨⟨_, rfl⟩, hfl, by simpa using hc1⟩ ?_ ?_
  · rintro k d η m' hd ⟨⟨e4, rfl⟩, hfl', hc'⟩
    rw [List.getElem?_map] at hd
    cases ha : ord[k]? with
    | none => rw [ha] at hd; cases hd
    | some a =>
    rw [ha] at hd
    cases hd
    have hal : a < c.r.length := ho.mem.mp (List.mem_of_getElem? ha)
    have hkl := (List.getElem?_eq_some_iff.mp ha).1
    have hx : rAt c.r a ∈ c.r := rAt_mem hal
    have hxb : ∀ b, some b ∈ rAt c.r a → b ∈ ord := fun b hb' => by
      obtain ⟨k', e⟩ := List.mem_iff_getElem?.mp hb'
      exact ho.mem.mpr (hb a k' b ⟨_, by rw [rAt_lt hal]; exact List.getElem?_eq_getElem hal, e⟩)
    have e1 := fun m => gIx_rows (r := c.r) hal m
    simp [isTy_ref hc', e1]
    generalize hxe : rAt c.r a = x at hx hxb
    have hxl := hw x hx
    rw [plain_eq hxl]
    simp [-List.length_map]
    refine tri_map (fun o : Option Nat => D.int (match o with | none => -1 | some b => (b : Nat))) (fun o => oD (o.map fun b => ord.idxOf b)) x (fun o ho' => ⟨_, rfl, rfl, ?_⟩) (by omega) ?_
    · cases o with
      | none =>
        have h0 : 0 ∈ ord := ho.mem.mpr hr
        have e2 : gIndexL (.lst (ord.map fun k : Nat => D.int (k : Nat))) [.int 0] m' = .ok (.int (ord.idxOf 0 : Nat)) m' := index_ints (m := m') h0
        have e : ∀ z : D, gIx (.lst [.non, z]) (.int 0) m' = .ok .non m' := fun _ => rfl
        simp [wipeE, e2, e, oD]
      | some b =>
        have hbo := hxb b ho'
        have e2 := index_ints (m := m') hbo
        have e : ∀ z : D, gIx (.lst [.non, z]) (.int 1) m' = .ok z m' := fun _ => rfl
        have hmx : (if (b : Int) < 0 then (0 : Int) else (b : Int)) = (b : Int) := by rw [if_neg (by omega)]
        by_cases hb0 : b = 0
        · subst hb0
          have e3 : gIndexL (.lst (ord.map fun k : Nat => D.int (k : Nat))) [.int 0] m' = .ok (.int (ord.idxOf 0 : Nat)) m' := e2
          simp [wipeE, e3, e, oD]
        · simp [wipeE, Nat.pos_of_ne_zero hb0, e2, e, oD]
    have app := append_ref (d := rowD (reRow ord x)) hc' (by have := ho.len; simp; omega)
    unfold rowD reRow at app
    rw [List.map_map] at app
    have e5 : (oD ∘ Option.map fun b => List.idxOf b ord) = fun o => oD (o.map fun b => ord.idxOf b) := rfl
    rw [e5] at app
    simp [app]
    refine ⟨hfl'.put h1 hi _, ?_⟩
    rw [List.getElem?_set_self (List.getElem?_eq_some_iff.mp hc').1, List.take_add_one, List.getElem?_map, ha]
    simp [reRow, rowD, hxe]
  · rintro η m' ⟨⟨e4, rfl⟩, hfl', hc'⟩
    simp [b__law_reordered_s3, tuple_ref hc']
    have := h ord m' ho hfl'
    unfold chaD reR at this
    rw [List.map_map] at this
    exact this
end V
end Mir

/-! Mir: the other family: walks, yards, maps. -/
namespace Mir
namespace V
open PySem PySem.Spec PyProof.Rows L2 Mir Mir.Y
theorem law_walked_then {m : Mem} {y : Yar} {most : Nat} {P : D → Mem → Prop} (hf : Fit y.d.length y.h) (hl : y.h.length ≤ 900) (hd : y.d.length ≤ 900) (hm : most ≤ 900)
    (h1 : ∀ m' j, (walkY y most).1.length ≤ most → Kp m m' → m.length ≤ j → m'[j]? = some (.lst ((walkY y most).1.map iT)) → P (.tup [.tup ((walkY y most).2.map rowD), .ref j]) m')
    (h2 : ∀ m', most < (walkY y most).1.length → Kp m m' → P .non m') : Tri (m__law_walked [yarD y, .int (most : Nat)] m) P := by
  refine tri_fn rfl ?_
  simp [b__law_walked, yarD, b__law_walked_s1]
  rw [comp_mapT heaD (fun h => D.int h.s) y.h [] (fun h _ => ⟨_, rfl, rfl, by simp [wipeE, heaD]⟩) (by simp; omega)]
  have e0 : D.tup (y.h.map fun h => D.int h.s) = iT (y.h.map Hea.s) := by unfold iT; rw [List.map_map]; rfl
  simp [e0, b__law_walked_s2]
  have hs1 : (m ++ [Cell.lst [iT (y.h.map Hea.s)], Cell.lst []])[m.length]? = some (.lst ([y.h.map Hea.s].map iT)) := by simp
  have hr1 : (m ++ [Cell.lst [iT (y.h.map Hea.s)], Cell.lst []])[m.length + 1]? = some (.lst (([] : Rows').map rowD)) := by
    rw [List.getElem?_append_right (by simp)]; simp
  have hk1 : Kp m (m ++ [Cell.lst [iT (y.h.map Hea.s)], Cell.lst []]) := by
    have := ((Kp.refl m).push (Cell.lst [iT (y.h.map Hea.s)])).push (Cell.lst [])
    simpa using this
  generalize m ++ [Cell.lst [iT (y.h.map Hea.s)], Cell.lst []] = m1 at hs1 hr1 hk1
  simp [b__law_walked_s3]
  refine while_inv (fun n η m' => ∃ sts rows, n + rows.length = most ∧ walkS y.h y.d.length most n sts rows = walkY y most ∧ rows.length ≤ sts.length ∧ sts.length ≤ 1 + 900 * rows.length ∧ (∀ x ∈ rows, x.length = y.d.length) ∧
      (∃ e6 e7 e8 e9, η = [some (D.tup [sT y.d, D.tup (List.map heaD y.h)]), some (D.int (most : Nat)), some (D.ref m.length), some (D.ref (m.length + 1)), some (sT y.d), some (D.tup (List.map heaD y.h)), e6, e7, e8, e9, none]) ∧
      Kp m m' ∧ m'[m.length]? = some (.lst (sts.map iT)) ∧ m'[m.length + 1]? = some (.lst (rows.map rowD))) most (by omega) ⟨[y.h.map Hea.s], [], by simp, rfl, by simp, by simp, by simp, ⟨_, _, _, _, rfl⟩, hk1, hs1, hr1⟩ ?_
  rintro n η m' ⟨sts, rows, hn, w, hle, hbig, hwid, ⟨e6, e7, e8, e9, rfl⟩, hkp, hs, hr⟩
  simp [len_ref hs, len_ref hr]
  have hend : rows.length = sts.length ∨ most < sts.length → TriS (b__law_walked_s4 [some (D.tup [sT y.d, D.tup (List.map heaD y.h)]), some (D.int ↑most), some (D.ref (List.length m)), some (D.ref (List.length m + 1)), some (sT y.d), some (D.tup (List.map heaD y.h)), e6, e7, e8, e9, none] m') (fun x m => P D.non m) P := by
    intro hq
    simp [b__law_walked_s4, len_ref hs]
    have e := walkS_end (hs := y.h) (w := y.d.length) (most := most) n (sts := sts) (rows := rows) (by omega)
    rw [w] at e
    by_cases hgt : most < sts.length
    · simp [hgt]
      exact h2 m' (by rw [e]; exact hgt) hkp
    · simp [hgt, b__law_walked_s5, tuple_ref hr]
      have := h1 m' m.length (by rw [e]; show sts.length ≤ most; omega) hkp (Nat.le_refl _) (by rw [e]; exact hs)
      rw [e] at this
      exact this
  by_cases hlt : rows.length < sts.length
  · rw [if_pos hlt]
    by_cases hmo : sts.length ≤ most
    · rw [if_pos hmo]
      obtain ⟨st, hst⟩ : ∃ st, sts[rows.length]? = some st := ⟨_, List.getElem?_eq_getElem hlt⟩
      have e1 : gIx (.ref m.length) (.int (rows.length : Nat)) m' = .ok (iT st) m' := gIx_ref hs (Y.atI_nat (by rw [List.getElem?_map, hst]; rfl))
      simp [b__law_walked_2, len_ref hr, e1, b__law_walked_2s1]
      have hkx : m'.length ≠ m.length := by have := (List.getElem?_eq_some_iff.mp hs).1; omega
      have hkr : m'.length ≠ m.length + 1 := by have := (List.getElem?_eq_some_iff.mp hr).1; omega
      have hs := (Kp.refl m').push (Cell.lst []) |>.get hs
      have hr := (Kp.refl m').push (Cell.lst []) |>.get hr
      have hx : (m' ++ [Cell.lst []])[m'.length]? = some (.lst (([] : List (Option Nat)).map oD)) := by simp
      have hml : m.length ≤ m'.length := hkp.1
      have hkp := hkp.push (Cell.lst [])
      generalize hjx : m'.length = jx at hkx hkr hx hml
      generalize m' ++ [Cell.lst []] = m2 at hs hr hx hkp
      simp [b__law_walked_2s2, sT, -rng1R_int, rng_nat (n := y.d.length) (by omega)]
      refine for_inv (fun k η m' => ∃ sts' x, x.length = k ∧ rowS y.h st (List.range k) sts = (sts', x) ∧ sts'[rows.length]? = some st ∧ sts.length ≤ sts'.length ∧ sts'.length ≤ sts.length + k ∧
        (∃ e8 e9, η = [some (D.tup [D.tup (y.d.map D.str), D.tup (List.map heaD y.h)]), some (D.int (most : Nat)), some (D.ref m.length), some (D.ref (m.length + 1)), some (D.tup (y.d.map D.str)), some (D.tup (List.map heaD y.h)), some (iT st), some (.ref jx), e8, e9, none]) ∧
        Kp m m' ∧ m'[m.length]? = some (.lst (sts'.map iT)) ∧ m'[m.length + 1]? = some (.lst (rows.map rowD)) ∧ m'[jx]? = some (.lst (x.map oD))) _ ⟨sts, [], rfl, rfl, hst, Nat.le_refl _, by simp, ⟨_, _, rfl⟩, hkp, hs, hr, hx⟩ ?_ ?_
      · rintro k d η m3 hd' ⟨sts', x, hxl, w', hst', hge', hle', ⟨e8, e9, rfl⟩, hkp', hs', hr', hx'⟩
        rw [rngD_nat, List.getElem?_map] at hd'
        have hk : k < y.d.length := by
          cases hq : (List.range y.d.length)[k]? with
          | none => rw [hq] at hd'; cases hd'
          | some z => have := (List.getElem?_eq_some_iff.mp hq).1; simpa using this
        rw [List.getElem?_range hk] at hd'
        cases hd'
        simp [b__law_walked_1, isTy_ref hx', append_ref hx' (by simp; omega)]
        have hkp3 := hkp'.put (j := jx) (by omega) (.lst (x.map oD ++ [.non]))
        have hs3 : (m3.set jx (.lst (x.map oD ++ [.non])))[m.length]? = some (.lst (sts'.map iT)) := by rw [List.getElem?_set_ne hkx]; exact hs'
        have hr3 : (m3.set jx (.lst (x.map oD ++ [.non])))[m.length + 1]? = some (.lst (rows.map rowD)) := by rw [List.getElem?_set_ne hkr]; exact hr'
        have hx3 : (m3.set jx (.lst (x.map oD ++ [.non])))[jx]? = some (.lst ((x ++ [none]).map oD)) := by
          rw [List.getElem?_set_self (List.getElem?_eq_some_iff.mp hx').1]; simp [oD]
        generalize m3.set jx (.lst (x.map oD ++ [.non])) = m4 at hkp3 hs3 hr3 hx3
        have et : ∀ m, m__law_is_there [.tup (y.h.map heaD), iT st, .int (k : Nat)] m = .ok (.bl (thereB y.h st k)) m := fun m => is_there_eq hf hk (by omega)
        have el : ∀ m, m__law_led [.tup (y.h.map heaD), iT st, .int (k : Nat)] m = .ok (iT (ledL y.h st k)) m := fun m => law_led_eq hf hk (by omega)
        simp [b__law_walked_1s1, et]
        cases htb : thereB y.h st k with
        | false =>
          simp
          refine ⟨sts', x ++ [none], by simp; omega, ?_, hst', hge', by omega, hkp3, hs3, hr3, by simpa using hx3⟩
          rw [List.range_succ, rowS_snoc, w']
          simp [stepS, htb]
        | true =>
          simp [b__law_walked_0, el]
          generalize hled : ledL y.h st k = led
          have last : ∀ (m5 : Mem) (extra : List (List Int)) {N : Env' → Mem → Prop} {B C : Env' → Mem → Prop} {Rt : D → Mem → Prop}, Kp m m5 → m5[m.length]? = some (.lst ((sts' ++ extra).map iT)) → m5[m.length + 1]? = some (.lst (rows.map rowD)) → m5[jx]? = some (.lst ((x ++ [none]).map oD)) →
              led ∈ sts' ++ extra →
              (∀ m6, Kp m m6 → m6[m.length]? = some (.lst ((sts' ++ extra).map iT)) → m6[m.length + 1]? = some (.lst (rows.map rowD)) → m6[jx]? = some (.lst ((x ++ [some ((sts' ++ extra).idxOf led)]).map oD)) → N [some (D.tup [D.tup (List.map D.str y.d), D.tup (List.map heaD y.h)]), some (D.int ↑most), some (D.ref (List.length m)), some (D.ref (List.length m + 1)), some (D.tup (List.map D.str y.d)), some (D.tup (List.map heaD y.h)), some (iT st), some (D.ref jx), some (D.int ↑k), some (iT led), none] m6) →
              TriQ (b__law_walked_0s2 [some (D.tup [D.tup (List.map D.str y.d), D.tup (List.map heaD y.h)]), some (D.int ↑most), some (D.ref (List.length m)), some (D.ref (List.length m + 1)), some (D.tup (List.map D.str y.d)), some (D.tup (List.map heaD y.h)), some (iT st), some (D.ref jx), some (D.int ↑k), some (iT led), none] m5) N B C Rt := by
            intro m5 extra N B C Rt hk5 hs5 hr5 hx5 hmem hN
            have e5 := gSet_ref (d := oD (some ((sts' ++ extra).idxOf led))) hx5 (ixN_nat (n := ((x ++ [none]).map oD).length) (k := k) (by simp; omega))
            have e6 : ((x ++ [none]).map oD).set k (oD (some ((sts' ++ extra).idxOf led))) = (x ++ [some ((sts' ++ extra).idxOf led)]).map oD := by
              rw [← List.map_set]
              congr 1
              rw [List.set_append_right _ _ (by omega), hxl, Nat.sub_self]
              rfl
            rw [e6] at e5
            have e7 : D.int (((sts' ++ extra).idxOf led : Nat) : Int) = oD (some ((sts' ++ extra).idxOf led)) := rfl
            simp only [b__law_walked_0s2]
            generalize sts' ++ extra = sts5 at hs5 hmem hN e5 e6 e7
            simp [isTy_ref hs5, index_stands hs5 hmem]
            rw [e7, e5]
            simp only [tri_ok]
            refine hN _ (hk5.put (by omega) _) (by rw [List.getElem?_set_ne hkx]; exact hs5) (by rw [List.getElem?_set_ne hkr]; exact hr5) ?_
            rw [List.getElem?_set_self (List.getElem?_eq_some_iff.mp hx5).1]
          simp [b__law_walked_0s1, gIn_stands hs3]
          by_cases hin : led ∈ sts'
          · simp [hin]
            refine last m4 [] hkp3 (by simpa using hs3) hr3 hx3 (by simpa using hin) fun m6 k6 s6 r6 x6 => ?_
            rw [List.append_nil] at s6 x6
            refine ⟨sts', x ++ [some (sts'.idxOf led)], by simp; omega, ?_, hst', hge', by omega, ⟨_, _, rfl⟩, k6, s6, r6, x6⟩
            rw [List.range_succ, rowS_snoc, w']
            simp [stepS, htb, hled, hin]
          · simp [hin, isTy_ref hs3, append_ref hs3 (by simp; omega)]
            have hidx : (sts' ++ [led]).idxOf led = sts'.length := by
              rw [List.idxOf_append, if_neg hin]
              simp
            refine last _ [led] (hkp3.put (Nat.le_refl _) _) ?_ (by rw [List.getElem?_set_ne (by omega)]; exact hr3) (by rw [List.getElem?_set_ne (fun e => hkx e.symm)]; exact hx3) (by simp) fun m6 k6 s6 r6 x6 => ?_
            · rw [List.getElem?_set_self (List.getElem?_eq_some_iff.mp hs3).1]
              simp
            · rw [hidx] at x6
              refine ⟨sts' ++ [led], x ++ [some sts'.length], by simp; omega, ?_, by rw [List.getElem?_append_left (List.getElem?_eq_some_iff.mp hst').1]; exact hst', by simp; omega, by simp; omega, ⟨_, _, rfl⟩, k6, s6, r6, x6⟩
              rw [List.range_succ, rowS_snoc, w']
              simp [stepS, htb, hled, hin]
      · rintro η m3 ⟨sts', x, hxl, w', hst', hge', hle', ⟨e8, e9, rfl⟩, hkp', hs', hr', hx'⟩
        simp at hxl hle'
        simp [b__law_walked_2s3, isTy_ref hr', tuple_ref hx', append_ref hr' (by simp; omega)]
        have hstA : stA sts rows.length = st := by unfold stA; rw [List.getD_eq_getElem?_getD, hst]; rfl
        obtain ⟨n', rfl⟩ : ∃ n', n = n' + 1 := ⟨n - 1, by omega⟩
        have w2 : walkS y.h y.d.length most n' sts' (rows ++ [x]) = walkY y most := by
          unfold walkS at w
          rw [rngD_length] at w'
          rw [if_pos ⟨hlt, hmo⟩, hstA, w'] at w
          exact w
        refine ⟨n', by omega, sts', rows ++ [x], by simp; omega, w2, by simp; omega, by simp; omega, fun z hz => ?_, hkp'.put (by omega) _, hs', ?_⟩
        · rcases List.mem_append.mp hz with hz | hz
          · exact hwid z hz
          · have : z = x := by simpa using hz
            rw [this]; exact hxl
        · rw [List.getElem?_set_self (List.getElem?_eq_some_iff.mp hr').1]
          simp [rowD]
    · rw [if_neg hmo]
      exact hend (.inr (by omega))
  · rw [if_neg hlt]
    exact hend (.inl (by omega))
theorem law_map_of_then {m : Mem} {y : Yar} {most : Nat} {P : D → Mem → Prop} (hf : Fit y.d.length y.h) (hl : y.h.length ≤ 900) (hd : y.d.length ≤ 900) (hm : most ≤ 900)
    (h1 : ∀ m', (walkY y most).1.length ≤ most → Kp m m' → P (chaD (selC y.d (walkY y most).2)) m')
    (h2 : ∀ m', most < (walkY y most).1.length → Kp m m' → P .non m') : Tri (m__law_map_of [yarD y, .int (most : Nat)] m) P := by
  refine tri_fn rfl ?_
  simp [b__law_map_of]
  have we := walkY_wk y most
  refine law_walked_then hf hl hd hm (fun m' j hmo hkp _ hj => ?_) (fun m' hmo hkp => ?_)
  · have hwid := we.wid
    have hrl := we.fin hmo
    have hthis := h1 m' hmo hkp
    generalize (walkY y most).2 = rows at hwid hrl hthis
    generalize (walkY y most).1 = sts at hrl hmo hj
    simp [b__law_map_of_s1, isNon, b__law_map_of_s2]
    simp only [yarD, sT]
    simp [b__law_map_of_s3, -rng1R_int, rng_nat (n := y.d.length) (by omega)]
    rw [rngD_nat]
    have hfil := comp_filterT (g := gNm 5) (t := mTru (mCB (bAll fun bs => bs.any id) (mCons (mLc [6] false (mIt (mVar 3)) (gNm 6) mYes (mOp (gIs true) (mOp gIx (mVar 6) (mVar 5)) (mC .non))) mNil))) (e := mVar 5)
      (η := [some (.tup [.tup (y.d.map .str), .tup (y.h.map heaD)]), some (.int (most : Nat)), some (.tup [.tup (rows.map rowD), .ref j]), some (.tup (rows.map rowD)), none, none, none]) (m := m') (fun k : Nat => D.int (k : Nat)) (fun k : Nat => D.int (k : Nat)) (fun k => rows.any fun x => (oAt x k).isSome) (List.range y.d.length) [] (fun k hk => by
        have hk : k < y.d.length := List.mem_range.mp hk
        refine ⟨_, rfl, ?_, fun _ => by simp⟩
        simp
        rw [comp_mapT rowD (fun x => D.bl (oAt x k).isSome) rows [] (fun x hx => by
          have e3 := fun m => gIx_row (x := x) (k := k) (by rw [hwid x hx]; exact hk) m
          refine ⟨_, rfl, rfl, ?_⟩
          simp [wipeE, e3, oD_non]) (by simp; omega)]
        have e4 : rows.map (fun x => D.bl (oAt x k).isSome) = (rows.map fun x => (oAt x k).isSome).map .bl := by rw [List.map_map]; rfl
        simp only [List.nil_append, mkL_f, bind_ok, e4, bAll_bls, truD_bl]
        rw [List.any_map]
        rfl) (by simp; omega)
    refine (tri_eq hfil).mpr ?_
    have hdl : ∀ k ∈ doneL y.d.length rows, k < y.d.length := fun k hk => by
      unfold doneL at hk
      rw [List.mem_filter, List.mem_range] at hk
      exact hk.1
    have hdn : (doneL y.d.length rows).length ≤ 900 := by
      have : (doneL y.d.length rows).length ≤ (List.range y.d.length).length := List.length_filter_le _ _
      rw [List.length_range] at this
      omega
    have := hthis
    unfold selC chaD sT at this
    show TriS (b__law_map_of_s4 [_, _, _, _, some (.lst ([] ++ (doneL y.d.length rows).map fun k : Nat => D.int (k : Nat))), _, _] m') _ _
    generalize doneL y.d.length rows = dn at hdl hdn this
    simp [b__law_map_of_s4, -List.length_map]
    rw [comp_mapT (fun k : Nat => D.int (k : Nat)) (fun k => D.str (nAt y.d k)) dn [] (fun k hk => by
      have e3 := fun m => gIx_sT (xs := y.d) (nAt_lt (hdl k hk)) m
      unfold sT at e3
      refine ⟨_, rfl, rfl, ?_⟩
      simp [wipeE, e3]) (by simp; omega)]
    simp only [tri_ok, List.nil_append]
    rw [comp_mapT rowD (fun x => rowD (dn.map (oAt x))) rows [] (fun x hx => by
      refine ⟨_, rfl, rfl, ?_⟩
      simp [wipeE, -List.length_map]
      rw [comp_mapT (fun k : Nat => D.int (k : Nat)) (fun k => oD (oAt x k)) dn [] (fun k hk => by
        have e3 := fun m => gIx_row (x := x) (k := k) (by rw [hwid x hx]; exact hdl k hk) m
        refine ⟨_, rfl, rfl, ?_⟩
        simp [wipeE, e3]) (by simp; omega)]
      simp [rowD]) (by simp; omega)]
    simp only [tri_ok, List.nil_append, bTuple_lst]
    rw [List.map_map, List.map_map] at this
    exact this
  · simp [b__law_map_of_s1, isNon]
    exact h2 m' hmo hkp
theorem map_of_then {m : Mem} {y : Yar} {most : Nat} {P : D → Mem → Prop} (hf : Fit y.d.length y.h) (hl : y.h.length ≤ 900) (hd : y.d.length ≤ 900) (hm : most ≤ 900)
    (h1 : ∀ sts rows m', Wk y.h (y.h.map Hea.s) sts rows → rows.length = sts.length → (∀ x ∈ rows, x.length = y.d.length) → sts.length ≤ most → Kp m m' → P (chaD (selC y.d rows)) m')
    (h2 : ∀ m', Kp m m' → P .non m') : Tri (m__law_map_of [yarD y, .int (most : Nat)] m) P := by
  have we := walkY_wk y most
  exact law_map_of_then hf hl hd hm (fun m' hmo hkp => h1 _ _ m' we.wk (we.fin hmo) we.wid hmo hkp) (fun m' _ hkp => h2 m' hkp)
theorem fuel_then {m : Mem} {i n : Nat} {P : D → Mem → Prop} (hf : FlowAt m i) (hn : n ≤ 900) (h : ∀ (x : Hea) m', OkHea n 5 x → Flo m m' i → P (heaD x) m') : Tri (m__law_fuel [.ref i, .int (n : Nat)] m) P := by
  refine tri_fn rfl ?_
  simp [b__law_fuel, -rng1R_int, rng_nat (n := n) (by omega)]
  rw [rngD_nat]
  refine tri_map (fun k : Nat => D.int (k : Nat)) (fun _ => D.int 1) (List.range n) (fun k _ => ⟨_, rfl, rfl, by simp⟩) (by simp; omega) ?_
  have e1 : D.tup ((List.range n).map fun _ => D.int 1) = iT (List.replicate n 1) := by
    unfold iT
    rw [List.map_replicate, List.map_const']
    simp
  simp [b__law_fuel_s1]
  refine pick_then hf (by decide) (by decide) fun k m1 hk hfl1 => ?_
  simp [-rng1R_int, rng_nat (n := n) (by omega)]
  refine (comp_draw D.int (fun c => 0 ≤ c ∧ c ≤ 5) hfl1.at (by simp; omega) ?_).mono ?_
  · intro d m' hd hfl'
    simp [wipeE]
    refine pick_then hfl'.at (by decide) (by decide) fun z m2 hz hfl2 => ?_
    by_cases z0 : z = 0
    · simp [z0]
      exact hfl'.trans hfl2
    · simp [z0]
      exact hfl'.trans hfl2
  · rintro _ m2 ⟨ls, rfl, hll, hls, hfl2⟩
    simp at hll
    have e1' : D.tup (List.replicate n (D.int 1)) = iT (List.replicate n 1) := by unfold iT; rw [List.map_replicate]
    have := h ⟨1 + (k : Int), List.replicate n 1, ls⟩ m2 ⟨by show 0 ≤ 1 + (k : Int); omega, by show 1 + (k : Int) ≤ 5; omega, by simp, hll, fun x hx => by
      simp at hx
      omega, hls⟩ (hfl1.trans hfl2)
    unfold heaD at this
    rw [← e1] at this
    exact this
theorem ring_heaps_then {m : Mem} {i n : Nat} {P : D → Mem → Prop} (hf : FlowAt m i) (hn : n ≤ 900) (h : ∀ (xs : List Hea) m', xs.length ≤ 2 → (∀ x ∈ xs, OkHea n 5 x) → Flo m m' i → P (.lst (xs.map heaD)) m') : Tri (m__law_ring_heaps [.ref i, .int (n : Nat)] m) P := by
  refine tri_fn rfl ?_
  simp [b__law_ring_heaps, -rng1R_int, rng_nat (n := n) (by omega)]
  refine (pick_draw (n := n) hf (by omega) (by decide) (by decide) (fun d => rfl)).mono ?_
  rintro _ m2 ⟨ws, rfl, hw, hw4, hfl⟩
  simp [b__law_ring_heaps_s1]
  refine pick_then hfl.at (by decide) (by decide) fun k m3 hk hfl3 => ?_
  simp [wipeE]
  rw [marks_map 0 ws (by omega) (by simp)]
  simp
  rw [marks_map 1 ws (by omega) (by simp)]
  simp [b__law_ring_heaps_s2]
  refine pick_then hfl3.at (by decide) (by decide) fun k2 m4 hk2 hfl4 => ?_
  have hfl := hfl.trans (hfl3.trans hfl4)
  refine h [⟨1 + (k : Int), marks 0 ws, marks 1 ws⟩, ⟨(k2 : Int), marks 1 ws, marks 0 ws⟩] m4 (by simp) (fun x hx => ?_) hfl
  simp at hx
  rcases hx with rfl | rfl
  · exact ⟨by show 0 ≤ 1 + (k : Int); omega, by show 1 + (k : Int) ≤ 5; omega, by show (marks 0 ws).length = n; rw [marks_len]; exact hw, by show (marks 1 ws).length = n; rw [marks_len]; exact hw, marks_ok 0 ws, marks_ok 1 ws⟩
  · exact ⟨by show 0 ≤ (k2 : Int); omega, by show (k2 : Int) ≤ 5; omega, by show (marks 1 ws).length = n; rw [marks_len]; exact hw, by show (marks 0 ws).length = n; rw [marks_len]; exact hw, marks_ok 1 ws, marks_ok 0 ws⟩
theorem catT_own {m : Mem} {d e : D} {xs ys : List D} (h1 : lstOwn m d = some xs) (h2 : lstOwn m e = some ys) (hl : xs.length + ys.length ≤ 1000000) : gAdd true d e m = .ok (.ref m.length) (m ++ [.lst (xs ++ ys)]) := by
  have e : gAdd true d e m = catL true m (lstOwn m d) (lstOwn m e) := by
    cases d with
    | lst _ => rfl
    | ref _ => rfl
    | _ => cases h1
  rw [e, h1, h2]
  show (if xs.length + ys.length ≤ sizeLine then mkL true (xs ++ ys) m else .stk) = _
  rw [if_pos (size_le hl)]
  rfl
theorem any_yard_then {m : Mem} {i : Nat} {c : Int} {P : D → Mem → Prop} (hf : FlowAt m i) (hc0 : 0 < c) (hc : c ≤ 5) (h : ∀ (y : Yar) m', OkYar y → 1 ≤ y.d.length → (y.d.length : Int) ≤ c → y.h.length ≤ 5 → (∀ x ∈ y.h, OkHea y.d.length 5 x) → Flo m m' i → P (yarD y) m') : Tri (m__law_any_yard [.ref i, .int c] m) P := by
  refine tri_fn rfl ?_
  simp [b__law_any_yard]
  refine pick_then hf hc0 (by omega) fun k m1 hk hfl => ?_
  simp [b__law_any_yard_s1]
  have hn : 1 + (k : Int) = ((1 + k : Nat) : Int) := by simp
  rw [hn]
  generalize hN : 1 + k = n
  have hi : m1.length ≠ i := by have := hfl.at.lt; omega
  have h1 : m.length ≤ m1.length := hfl.2.1
  have hfl := hfl.push (.lst [])
  have hc1 : (m1 ++ [Cell.lst []])[m1.length]? = some (.lst []) := by simp
  generalize m1 ++ [Cell.lst []] = m2 at hfl hc1
  simp [b__law_any_yard_s2]
  refine pick_then hfl.at (by decide) (by decide) fun t m3 ht hfl3 => ?_
  have hc3 := hfl3.get hi hc1
  have hfl := hfl.trans hfl3
  simp [-rng1R_int, rng_nat (n := t) (by omega)]
  refine for_draw (m0 := m) (i := i) (j := m1.length) heaD (OkHea n 5) (fun η => ∃ e4, η = [some (.ref i), some (.int c), some (.int (n : Nat)), some (.ref m1.length), e4, none]) hfl hc3 ⟨_, rfl⟩ ?_ ?_
  · rintro d η m' as hd ⟨e4, rfl⟩ hfl' hc' hP hlt
    simp at hlt
    simp [isTy_ref hc']
    refine pick_then hfl'.at (by decide) (by decide) fun s m4 hs hfl4 => ?_
    obtain ⟨b, hb0, hb5, hix⟩ := sorts_ix (k := s) (m := m4) (by omega)
    simp [hix]
    refine heap_then hfl4.at (by omega) hb0 (by omega) fun x m5 hx hfl5 => ?_
    have hfl5' := hfl4.trans hfl5
    have hc5 := hfl5'.get hi hc'
    simp [append_ref hc5 (by simp; omega)]
    exact ⟨x, hx.mono hb5, (hfl'.trans hfl5').put h1 hi _, by rw [List.getElem?_set_self (List.getElem?_eq_some_iff.mp hc5).1]⟩
  · rintro η m' as ⟨e4, rfl⟩ hfl' hc' hP hlen
    simp at hlen
    simp [b__law_any_yard_s3]
    refine pick_then hfl'.at (by decide) (by decide) fun f m4 hf3 hfl4 => ?_
    have hfl4 := hfl'.trans hfl4
    have hc4 : m4[m1.length]? = some (.lst (as.map heaD)) := by
      have hfx : Flo m' m4 i := by assumption
      exact hfx.get hi hc'
    have fin : ∀ (q : Nat) (xs : List Hea) (m5 : Mem), q ≠ i → m5[q]? = some (.lst (xs.map heaD)) → xs.length ≤ 5 → (∀ x ∈ xs, OkHea n 5 x) → Flo m m5 i → TriS (b__law_any_yard_s6 [some (.ref i), some (.int c), some (.int (n : Nat)), some (.ref q), e4, some (.int (f : Nat))] m5) (fun _ m => P .non m) P := fun q xs m5 hqi hq hxl hxs hfl5 => by
      simp [b__law_any_yard_s6]
      refine names_then hfl5.at (by omega) fun ns m6 hnl hns hfl6 => ?_
      have hq6 := hfl6.get hqi hq
      refine shuffled_then heaD _ xs hfl6.at (by simp [seqOf, lstOf, hq6, lstC]) (by rw [len_ref hq6, List.length_map]) (fun m' hfl' => by rw [len_ref (hfl'.get hqi hq6), List.length_map]) (by omega) fun ys m7 hp hfl7 => ?_
      have hmem : ∀ x ∈ ys, OkHea ns.length 5 x := by
        intro x hx
        rw [hnl]
        exact hxs x (hp.mem_iff.mp hx)
      have hyl : ys.length ≤ 5 := by rw [hp.length_eq]; exact hxl
      simp
      exact h ⟨ns, ys⟩ m7 ⟨hns, by show ns.length ≤ 5; omega, fun x hx => (hmem x hx).mono (by decide), by show ys.length ≤ 12; omega⟩ (by show 1 ≤ ns.length; omega) (by show (ns.length : Int) ≤ c; omega) hyl hmem (hfl5.trans (hfl6.trans hfl7))
    simp [b__law_any_yard_s4]
    by_cases f0 : f = 0
    · subst f0
      simp [isTy_ref hc4]
      refine fuel_then hfl4.at (by omega) fun x m5 hx hfl5 => ?_
      have hc5 := hfl5.get hi hc4
      simp [append_ref hc5 (show (as.map heaD).length < 1000000 by simp; omega), b__law_any_yard_s5]
      refine fin m1.length (as ++ [x]) _ hi (by rw [List.getElem?_set_self (List.getElem?_eq_some_iff.mp hc5).1]; simp) (by simp; omega) (fun z hz => ?_) ((hfl4.trans hfl5).put h1 hi _)
      rcases List.mem_append.mp hz with hz | hz
      · exact hP z hz
      · rw [List.mem_singleton.mp hz]; exact hx
    · simp [f0, b__law_any_yard_s5]
      by_cases f1 : (f : Int) = 1
      · simp [f1]
        refine ring_heaps_then hfl4.at (by omega) fun xs m5 hxl hxs hfl5 => ?_
        have hc5 := hfl5.get hi hc4
        rw [catT_own (own_ref hc5) (own_lst _ _) (by simp; omega)]
        simp only [tri_ok, bind_ok]
        have hi5 : m5.length ≠ i := by
          have := hfl5.at.lt
          omega
        have hfl5 := (hfl4.trans hfl5).push (.lst (as.map heaD ++ xs.map heaD))
        have := fin m5.length (as ++ xs) (m5 ++ [.lst (as.map heaD ++ xs.map heaD)]) hi5 (by simp) (by simp; omega) (fun z hz => by
          rcases List.mem_append.mp hz with hz | hz
          · exact hP z hz
          · exact hxs z hz) hfl5
        rw [show ((f : Nat) : Int) = 1 from f1] at this
        exact this
      · simp [f1]
        exact fin m1.length as m4 hi hc4 (by omega) hP hfl4
theorem close_then {m m1 : Mem} {i j w n : Nat} {r : Rows'} {P : D → Mem → Prop} (hfl : Flo m m1 i) (hr : RowsAt m1 j r) (hij : i < j) (ok : OkRows w r) (hn : r.length ≤ 900) (hw : w ≤ 20)
    (h : ∀ ns r' m', Nms ns → ns.length = w → OkRows w r' → r'.length = r.length → Flo m m' i → P (chaD ⟨ns, r'⟩) m') :
    Tri (m__law_names [.ref i, .int (w : Nat)] m1) (fun d m2 => ∃ ns : List Str, d = sT ns ∧ Nms ns ∧ ns.length = w ∧ Flo m m2 i ∧ RowsAt m2 j r ∧ Tri (m__law_reordered [.ref i, chaD ⟨ns, r⟩] m2) P) := by
  refine names_then hfl.at hw fun ns m2 hl hns hfl2 => ⟨ns, rfl, hns, hl, hfl.trans hfl2, hr.flo hfl2 hij, ?_⟩
  refine reordered_then (c := ⟨ns, r⟩) hfl2.at ok.pos hn (fun x hx => by rw [ok.wid x hx]; omega) ok.rng fun ord m3 ho hfl3 => ?_
  exact h ns _ m3 hns hl (ok.re ho) (by show (reR ord r).length = _; unfold reR; rw [List.length_map, ho.len]) (hfl.trans (hfl2.trans hfl3))
section
variable {m : Mem} {i j w n : Nat} {P : D → Mem → Prop} {N : Env' → Mem → Prop} {e1 e2 : Option D}
theorem am_s8 {m' : Mem} {r : Rows'} {e6 e7 e8 e9 e10 : Option D} (hij : i < j) (d : Dr m m' i j w n r) (ok : OkRows w r) (hn : n ≤ 900) (hw : w ≤ 20)
    (h : ∀ c m', Nms c.n → c.n.length = w → OkRows w c.r → c.r.length = n → Flo m m' i → P (chaD c) m') : TriS (b__law_any_map_s8 (amE i j w n e1 e2 e6 e7 e8 e9 e10) m') N P := by
  simp [b__law_any_map_s8, -List.length_map]
  refine (close_then (n := n) (P := P) d.fl d.ro hij ok (by rw [d.raw.len]; omega) hw fun ns r' m'' hns hl ok' hlen hfl' => h ⟨ns, r'⟩ m'' hns hl ok' (by show r'.length = _; rw [hlen, d.raw.len]) hfl').mono fun dd m2 ⟨ns, e, hns, hl, hfl2, hr2, hre⟩ => ?_
  rw [e]
  refine (tri_eq (hr2.tuples d.raw.len (by omega) (by simp [wipeE]))).mpr ?_
  exact hre
theorem am_s7 {m' : Mem} {r : Rows'} {e6 e7 e8 e9 e10 : Option D} (hj : m.length ≤ j) (hij : i < j) (d : Dr m m' i j w n r) (com : ∀ b, b < n → Com r b) (hn0 : 0 < n) (hn : n ≤ 900) (hw : w ≤ 20)
    (h : ∀ c m', Nms c.n → c.n.length = w → OkRows w c.r → c.r.length = n → Flo m m' i → P (chaD c) m') : TriS (b__law_any_map_s7 (amE i j w n e1 e2 e6 e7 e8 e9 e10) m') N P := by
  simp [b__law_any_map_s7, -rng1R_int, rng_nat (n := w) (by omega)]
  refine for_inv (fun k η m' => (∃ e9, η = amE i j w n e1 e2 e6 e7 e8 e9 e10) ∧ ∃ r, Dr m m' i j w n r ∧ (∀ b, b < n → Com r b) ∧ ∀ k', k' < k → ∃ a b, way r a k' b) _ ⟨⟨_, rfl⟩, r, d, com, fun k' hk' => by omega⟩ ?_ ?_
  · rintro k dd η m' hd ⟨⟨e9, rfl⟩, r, d, com, hdone⟩
    obtain ⟨hk, rfl⟩ := rng_get hd
    have hcol := col_eq (i := i) (e1 := e1) (e2 := e2) (e6 := e6) (e7 := e7) (e8 := e8) (e10 := e10) d.ro d.raw hk hn
    simp
    refine (tri_eq hcol).mpr ?_
    simp only [bAll_bls, tri_ok, truD_bl]
    have hall : ((List.range n).map fun a => (oAt (rAt r a) k).isNone).all id = (List.range n).all fun a => (oAt (rAt r a) k).isNone := by rw [List.all_map]; rfl
    rw [hall]
    cases hq : (List.range n).all fun a => (oAt (rAt r a) k).isNone with
    | false =>
      simp
      have : ¬ ∀ a ∈ List.range n, (oAt (rAt r a) k).isNone = true := fun z => by
        rw [List.all_eq_true.mpr z] at hq; cases hq
      have hex : ∃ a, a < n ∧ (oAt (rAt r a) k).isNone = false := by
        refine Classical.byContradiction fun z => this fun a ha => ?_
        cases hb : (oAt (rAt r a) k).isNone with
        | true => rfl
        | false => exact absurd ⟨a, List.mem_range.mp ha, hb⟩ z
      obtain ⟨a, ha, ho⟩ := hex
      refine ⟨r, d, com, fun k' hk' => ?_⟩
      by_cases e : k' = k
      · subst e
        cases hb : oAt (rAt r a) k' with
        | none => rw [hb] at ho; cases ho
        | some b => exact ⟨a, b, _, rAt_some (by rw [d.raw.len]; exact ha), by rw [oAt_get (by rw [d.raw.row ha]; exact hk), hb]⟩
      · exact hdone k' (by omega)
    | true =>
      have hnone : ∀ a, a < n → oAt (rAt r a) k = none := fun a ha => by
        have := List.all_eq_true.mp hq a (List.mem_range.mpr ha)
        simpa using this
      simp
      refine pick_then d.fl.at (by omega) (by omega) fun b m2 hb hfl2 => ?_
      have ro2 := d.ro.flo hfl2 hij
      have fl2 := d.fl.trans hfl2
      refine pick_then fl2.at (by omega) (by omega) fun a m3 ha hfl3 => ?_
      have ha : a < n := by omega
      have ro3 := ro2.flo hfl3 hij
      have fl3 := fl2.trans hfl3
      obtain ⟨m4, s1, s2, s3⟩ := ro3.put fl3 hj hij (a := a) (k := k) (some b) (by rw [d.raw.len]; exact ha) (by rw [d.raw.row ha]; exact hk)
      have s1' : gSet (.ref (j + a)) (.int (k : Nat)) (.int (b : Nat)) m3 = .ok () m4 := s1
      simp [gIx_refs ha, s1']
      refine ⟨_, ⟨s3, s2, d.raw.set ha (by omega)⟩, fun x hx => (com x hx).mono fun a' k' b' hw' => setR_keep hw' (hnone a ha), fun k' hk' => ?_⟩
      by_cases e : k' = k
      · subst e
        exact ⟨a, b, setR_new (by rw [d.raw.len]; exact ha) (by rw [d.raw.row ha]; exact hk)⟩
      · obtain ⟨a', b', hw'⟩ := hdone k' (by omega)
        exact ⟨a', b', setR_keep hw' (hnone a ha)⟩
  · rintro η m' ⟨⟨e9, rfl⟩, r, d, com, hdone⟩
    rw [rngD_length] at hdone
    exact am_s8 hij d ⟨by rw [d.raw.len]; exact hn0, d.raw.wid, d.raw.rng, fun b hb => com b (by rw [← d.raw.len]; exact hb), hdone⟩ hn hw h

theorem am_s6 {m' : Mem} {r : Rows'} {t : Nat} {e6 e8 e9 e10 : Option D} (hj : m.length ≤ j) (hij : i < j) (d : Dr m m' i j w n r) (com : ∀ b, b < n → Com r b) (ht0 : 0 < t) (ht : t ≤ 900) (hn0 : 0 < n) (hn : n ≤ 900) (hw : w ≤ 20)
    (h : ∀ c m', Nms c.n → c.n.length = w → OkRows w c.r → c.r.length = n → Flo m m' i → P (chaD c) m') : TriS (b__law_any_map_s6 (amE i j w n e1 e2 e6 (some (.int (t : Nat))) e8 e9 e10) m') N P := by
  simp [b__law_any_map_s6, -rng1R_int, rng_nat (n := n) (by omega)]
  refine for_inv (fun a η m' => (∃ e8 e9, η = amE i j w n e1 e2 e6 (some (.int (t : Nat))) e8 e9 e10) ∧ ∃ r, Dr m m' i j w n r ∧ (∀ b, b < n → Com r b)) _ ⟨⟨_, _, rfl⟩, r, d, com⟩ ?_ ?_
  · rintro a dd η m' hd ⟨⟨e8, e9, rfl⟩, r, d, com⟩
    obtain ⟨ha, rfl⟩ := rng_get hd
    simp [-rng1R_int, rng_nat (n := w) (by omega)]
    refine TriS.toQ ?_
    refine for_inv (fun k η m' => (∃ e9, η = amE i j w n e1 e2 e6 (some (.int (t : Nat))) (some (.int (a : Nat))) e9 e10) ∧ ∃ r, Dr m m' i j w n r ∧ (∀ b, b < n → Com r b)) _ ⟨⟨_, rfl⟩, r, d, com⟩ ?_ ?_
    · rintro k dd η m' hd ⟨⟨e9, rfl⟩, r, d, com⟩
      obtain ⟨hk, rfl⟩ := rng_get hd
      have e3 := d.ro.get (a := a) (k := k) (by rw [d.raw.len]; exact ha) (by rw [d.raw.row ha]; exact hk)
      simp [gIx_refs ha, e3, oD_non]
      cases ho : oAt (rAt r a) k with
      | some b =>
        simp
        exact ⟨r, d, com⟩
      | none =>
        simp
        refine pick_then d.fl.at (by omega) (by omega) fun q m2 hq hfl2 => ?_
        have ro2 := d.ro.flo hfl2 hij
        have fl2 := d.fl.trans hfl2
        by_cases q0 : q = 0
        · subst q0
          simp
          refine pick_then fl2.at (by omega) (by omega) fun b m3 hb hfl3 => ?_
          have ro3 := ro2.flo hfl3 hij
          have fl3 := fl2.trans hfl3
          obtain ⟨m4, s1, s2, s3⟩ := ro3.put fl3 hj hij (a := a) (k := k) (some b) (by rw [d.raw.len]; exact ha) (by rw [d.raw.row ha]; exact hk)
          have s1' : gSet (.ref (j + a)) (.int (k : Nat)) (.int (b : Nat)) m3 = .ok () m4 := s1
          simp [gIx_refs ha, s1']
          exact ⟨_, ⟨s3, s2, d.raw.set ha (by omega)⟩, fun x hx => (com x hx).mono fun a' k' b' hw' => setR_keep hw' ho⟩
        · simp [q0]
          exact ⟨r, ⟨fl2, ro2, d.raw⟩, com⟩
    · rintro η m' ⟨⟨e9, rfl⟩, r, d, com⟩
      exact ⟨⟨_, _, rfl⟩, r, d, com⟩
  · rintro η m' ⟨⟨e8, e9, rfl⟩, r, d, com⟩
    exact am_s7 hj hij d com hn0 hn hw h
/-- the places without a way -/
theorem am_0 {m' : Mem} {r : Rows'} {t : Nat} {e7 e8 e9 e10 : Option D} {N B C : Env' → Mem → Prop} (hj : m.length ≤ j) (hij : i < j) (d : Dr m m' i j w n r) (ht0 : 0 < t) (htn : t < n) (hn : n ≤ 900) (hw0 : 0 < w) (hw : w ≤ 20) (hfree : ∀ k, oAt (rAt r (t - 1)) k = none)
    (h : ∀ a k m2 e8 e9 e10, a < t → k < w → oAt (rAt r a) k = none → Dr m m2 i j w n (setR r a k (some t)) → N (amE i j w n e1 e2 (some (.int (t : Nat))) e7 e8 e9 e10) m2) :
    TriQ (b__law_any_map_0 (amE i j w n e1 e2 (some (.int (t : Nat))) e7 e8 e9 e10) m') N B C P := by
  simp [b__law_any_map_0]
  have hlt : ∀ a, a < n → j + a < m'.length := fun a ha => RowsAt.lt d.ro (by rw [d.raw.len]; exact ha)
  have hjf := hlt 0 (by omega)
  have hc1 : (m' ++ [Cell.lst []])[m'.length]? = some (.lst ((freeL r w 0).map pD)) := by simp [freeL]
  have fl1 := d.fl.push (.lst [])
  have ro1 := d.ro.kp ((Kp.refl m').push (.lst []))
  generalize hjq : m'.length = jf at hlt hjf hc1
  generalize m' ++ [Cell.lst []] = m1 at hc1 fl1 ro1
  simp [b__law_any_map_0s1, -rng1R_int, rng_nat (n := t) (by omega)]
  refine TriS.toQ ?_
  refine for_inv (fun a η m1 => (∃ e8, η = amE i j w n e1 e2 (some (.int (t : Nat))) e7 e8 e9 (some (.ref jf))) ∧ Flo m m1 i ∧ RowsAt m1 j r ∧ m1[jf]? = some (.lst ((freeL r w a).map pD))) _ ⟨⟨_, rfl⟩, fl1, ro1, hc1⟩ ?_ ?_
  · rintro a dd η m1 hd ⟨⟨e8, rfl⟩, fl1, ro1, hc1⟩
    obtain ⟨ha, rfl⟩ := rng_get hd
    have han : a < n := by omega
    simp [isTy_ref hc1, -rng1R_int, rng_nat (n := w) (by omega)]
    have hfil := comp_filterT (g := gNm 9) (t := mTest (mOp (gIs false) (mOp gIx (mOp gIx (mVar 5) (mVar 8)) (mVar 9)) (mC .non))) (e := mTup (mCons (mVar 8) (mCons (mVar 9) mNil)))
      (η := wipeE (amE i j w n e1 e2 (some (.int (t : Nat))) e7 (some (.int (a : Nat))) e9 (some (.ref jf))) [9]) (m := m1) (fun k : Nat => D.int (k : Nat)) (fun k : Nat => pD (a, k)) (fun k => (oAt (rAt r a) k).isNone) (List.range w) [] (fun k hk => by
        have hk : k < w := List.mem_range.mp hk
        have e3 := ro1.get (a := a) (k := k) (by rw [d.raw.len]; exact han) (by rw [d.raw.row han]; exact hk)
        refine ⟨_, rfl, ?_, fun _ => ?_⟩
        · simp [wipeE, gIx_refs han, e3, oD_non]
        · simp [wipeE, pD]) (by simp; omega)
    rw [← rngD_nat] at hfil
    refine (tri_eq hfil).mpr ?_
    have e4 : ((List.range w).filter fun k => (oAt (rAt r a) k).isNone).map (fun k : Nat => pD (a, k)) = (Y.freeOf r w a).map pD := by
      unfold Y.freeOf; rw [List.map_map]; rfl
    have hlen := freeL_len r w (a + 1)
    rw [freeL_succ, List.length_append] at hlen
    have hb : (a + 1) * w ≤ 900 * 26 := Nat.mul_le_mul (by omega) (Nat.le_trans hw (by decide))
    simp only [List.nil_append, e4]
    rw [extend_ref hc1 (by rw [List.length_map, List.length_map]; omega)]
    simp
    refine ⟨fl1.put (by omega) (by omega) _, ⟨fun a' x e => ?_⟩, ?_⟩
    · have := hlt a' (by rw [← d.raw.len]; exact (List.getElem?_eq_some_iff.mp e).1)
      rw [List.getElem?_set_ne (by omega)]
      exact ro1.at' a' x e
    · rw [List.getElem?_set_self (List.getElem?_eq_some_iff.mp hc1).1, freeL_succ, List.map_append]
  · rintro η m1 ⟨⟨e8, rfl⟩, fl1, ro1, hc1⟩
    rw [rngD_length] at hc1
    have hlen := freeL_len r w t
    have hb : t * w ≤ 900 * 26 := Nat.mul_le_mul (by omega) (Nat.le_trans hw (by decide))
    have hmem : (t - 1, 0) ∈ freeL r w t := freeL_mem.mpr ⟨by show t - 1 < t; omega, hw0, hfree 0⟩
    have hpos : 0 < (freeL r w t).length := List.length_pos_of_mem hmem
    simp [b__law_any_map_0s2, len_ref hc1]
    refine pick_then fl1.at (by omega) (by omega) fun q m2 hq hfl2 => ?_
    have hql : q < (freeL r w t).length := by omega
    have hc2 := hfl2.get (by omega) hc1
    have hpm : (freeL r w t)[q]? = some (freeL r w t)[q] := List.getElem?_eq_getElem hql
    have hp := freeL_mem.mp (List.getElem_mem hql)
    generalize (freeL r w t)[q] = p at hpm hp
    have e1 : gIx (.ref jf) (.int (q : Nat)) m2 = .ok (pD p) m2 := gIx_ref hc2 (Y.atI_nat (by rw [List.getElem?_map, hpm]; rfl))
    have hpn : p.1 < n := by omega
    obtain ⟨m3, s1, s2, s3⟩ := RowsAt.put (ro1.flo hfl2 hij) (fl1.trans hfl2) hj hij (a := p.1) (k := p.2) (some t) (by rw [d.raw.len]; exact hpn) (by rw [d.raw.row hpn]; exact hp.2.1)
    have s1' : gSet (.ref (j + p.1)) (.int (p.2 : Nat)) (.int (t : Nat)) m2 = .ok () m3 := s1
    simp [e1, pD, b__law_any_map_0s3, gIx_refs hpn, s1']
    exact h p.1 p.2 m3 _ _ _ hp.1 hp.2.1 hp.2.2 ⟨s3, s2, d.raw.set hpn htn⟩
theorem am_s4 {m' : Mem} {r : Rows'} {e6 e8 e9 e10 : Option D} (hj : m.length ≤ j) (hij : i < j) (d : Dr m m' i j w n r) (hemp : ∀ a k, oAt (rAt r a) k = none) (hn0 : 0 < n) (hn : n ≤ 900) (hw0 : 1 < n → 0 < w) (hw : w ≤ 20)
    (h : ∀ c m', Nms c.n → c.n.length = w → OkRows w c.r → c.r.length = n → Flo m m' i → P (chaD c) m') : TriS (b__law_any_map_s4 (amE i j w n e1 e2 e6 none e8 e9 e10) m') N P := by
  have e1' : (1 : Int) = ((1 : Nat) : Int) := rfl
  simp [b__law_any_map_s4]
  rw [e1', rng2_nat (a := 1) (b := n) (by omega) (by omega)]
  simp
  refine for_inv (fun k η m' => (∃ e6 e8 e9 e10, η = amE i j w n e1 e2 e6 none e8 e9 e10) ∧ ∃ r, Dr m m' i j w n r ∧ (∀ b, b < 1 + k → Com r b) ∧ ∀ a, k ≤ a → ∀ k', oAt (rAt r a) k' = none) _ ⟨⟨_, _, _, _, rfl⟩, r, d, fun b hb => by
      have : b = 0 := by omega
      rw [this]; exact .zero, fun a _ k' => hemp a k'⟩ ?_ ?_
  · rintro k dd η m' hd ⟨⟨e6, e8, e9, e10, rfl⟩, r, d, com, hemp⟩
    obtain ⟨hk, rfl⟩ := rngA_get (a := 1) hd
    simp
    refine am_0 (t := 1 + k) hj hij d (by omega) (by omega) hn (hw0 (by omega)) hw (fun k' => by rw [Nat.add_sub_cancel_left]; exact hemp k (Nat.le_refl _) k') fun a k2 m2 e8 e9 e10 ha hk2 ho d2 => ?_
    have han : a < n := by omega
    refine ⟨⟨_, _, _, _, rfl⟩, _, d2, fun b hb => ?_, fun a' ha' k' => ?_⟩
    · by_cases q : b < 1 + k
      · exact (com b q).mono fun a' k' b' hw' => setR_keep hw' ho
      · have : b = 1 + k := by omega
        rw [this]
        exact .step ((com a ha).mono fun a' k' b' hw' => setR_keep hw' ho) (setR_new (by rw [d.raw.len]; exact han) (by rw [d.raw.row han]; exact hk2))
    · rw [setR_at (by rw [d.raw.len]; exact han) (by rw [d.raw.row han]; exact hk2), if_neg (by omega)]
      exact hemp a' (by omega) k'
  · rintro η m' ⟨⟨e6, e8, e9, e10, rfl⟩, r, d, com, hemp⟩
    rw [rngD_length] at com
    simp [b__law_any_map_s5]
    refine pick_then d.fl.at (by decide) (by decide) fun t m2 ht hfl2 => ?_
    simp
    rw [show (2 : Int) + (t : Int) = ((2 + t : Nat) : Int) by omega]
    exact am_s6 (t := 2 + t) hj hij ⟨d.fl.trans hfl2, d.ro.flo hfl2 hij, d.raw⟩ (fun b hb => com b (by omega)) (by omega) (by omega) hn0 hn hw h

theorem any_map_then {most deeds : Nat} (hf : FlowAt m i) (h0 : 1 ≤ most) (h9 : most ≤ 900) (hd1 : 1 ≤ deeds) (hd : deeds ≤ 20)
    (h : ∀ c m', Nms c.n → c.n.length ≤ deeds → OkRows c.n.length c.r → c.r.length ≤ most → Flo m m' i → P (chaD c) m') : Tri (m__law_any_map [.ref i, .int (most : Nat), .int (deeds : Nat)] m) P := by
  refine tri_fn rfl ?_
  simp [b__law_any_map]
  refine pick_then hf (by omega) (by omega) fun k1 m1 hk1 hfl => ?_
  simp [b__law_any_map_s1]
  rw [show (1 : Int) + (k1 : Int) = ((1 + k1 : Nat) : Int) by omega]
  refine pick_then hfl.at (by omega) (by omega) fun k2 m2 hk2 hfl2 => ?_
  obtain ⟨n, hn⟩ : ∃ n, n = 1 + k1 := ⟨_, rfl⟩
  rw [← hn]
  have hfl := hfl.trans hfl2
  have s3 : ∀ w : Nat, w ≤ deeds → (1 < n → 0 < w) → TriS (b__law_any_map_s3 [some (.ref i), some (.int (most : Nat)), some (.int (deeds : Nat)), some (.int (n : Nat)), some (.int (w : Nat)), none, none, none, none, none, none, none] m2) (fun _ m => P .non m) P := by
    intro w hwd hw1
    simp [b__law_any_map_s3, -rng1R_int, rng_nat (n := n) (by omega)]
    have hij : i < m2.length := hfl.at.lt
    have hj : m.length ≤ m2.length := hfl.2.1
    have hc := comp_cells (g := gNm 8) (e := mOp (gRepL true) (mLst false (mCons (mC .non) mNil)) (mVar 4)) (η := wipeE [some (.ref i), some (.int (most : Nat)), some (.int (deeds : Nat)), some (.int (n : Nat)), some (.int (w : Nat)), none, none, none, none, none, none, none] [8]) (m := m2) (ds := rngD 0 n) (c := .lst ((List.replicate w (none : Option Nat)).map oD)) (by simp; omega) (fun d hd m' => ⟨_, rfl, by simp [wipeE, repL_t (k := w) (by omega)]⟩)
    rw [rngD_length] at hc
    refine (tri_eq hc).mpr ?_
    have hemp : ∀ a k, oAt (rAt (List.replicate n (List.replicate w (none : Option Nat))) a) k = none := fun a k => by
      unfold rAt oAt
      rw [List.getD_eq_getElem?_getD, List.getD_eq_getElem?_getD, List.getElem?_replicate]
      split
      · rw [Option.getD_some, List.getElem?_replicate]
        split <;> rfl
      · rfl
    have hfin := am_s4 (N := fun _ m => P .non m) (P := P) (e1 := some (.int (most : Nat))) (e2 := some (.int (deeds : Nat))) (e6 := none) (e8 := none) (e9 := none) (e10 := none) hj hij ⟨hfl.kp (Kp.many (List.replicate n (Cell.lst ((List.replicate w (none : Option Nat)).map oD)))), RowsAt.new, Raw.new w n⟩ hemp (by omega) (by omega) hw1 (by omega) (fun c m' h1 h2 h3 h4 h5 => h c m' h1 (by omega) (by rw [h2]; exact h3) (by omega) h5)
    exact hfin
  simp [b__law_any_map_s2]
  by_cases hq : 1 < n
  · have hq' : (1 : Int) < (n : Int) := by omega
    simp [hq, hq']
    by_cases q2 : 1 < k2
    · have q2' : (1 : Int) < (k2 : Int) := by omega
      simp [q2, q2']
      exact s3 k2 (by omega) (fun _ => by omega)
    · have q2' : ¬ (1 : Int) < (k2 : Int) := by omega
      simp [q2, q2']
      exact s3 1 (by omega) (fun _ => by omega)
  · have hq' : ¬ (1 : Int) < (n : Int) := by omega
    simp [hq, hq']
    exact s3 k2 (by omega) (fun z => absurd z hq)

theorem map_then {most deeds : Nat} (hf : FlowAt m i) (h0 : 1 ≤ most) (h9 : most ≤ 900) (hd1 : 1 ≤ deeds) (hd : deeds ≤ 5)
    (h : ∀ c m', OkCha c → c.n.length ≤ deeds → c.r.length ≤ most → Flo m m' i → P (chaD c) m') : Tri (m__law_map [.ref i, .int (most : Nat), .int (deeds : Nat)] m) P := by
  refine tri_fn rfl ?_
  simp [b__law_map]
  refine pick_then hf (by decide) (by decide) fun f m1 hfm hfl => ?_
  simp [b__law_map_s1]
  refine for_inv (fun _ η m' => (∃ e4 e5, η = [some (.ref i), some (.int (most : Nat)), some (.int (deeds : Nat)), some (.int (f : Nat)), e4, e5]) ∧ Flo m m' i) _ ⟨⟨_, _, rfl⟩, hfl⟩ ?_ ?_
  · rintro k dd η m' hdd ⟨⟨e4, e5, rfl⟩, hfl⟩
    simp [b__law_map_1]
    refine any_yard_then hfl.at (by omega) (by omega) fun y m2 oky hy1 hy2 hy3 hy4 hfl2 => ?_
    have hfl2 := hfl.trans hfl2
    refine map_of_then oky.fit (by have := oky.fewh; omega) (by have := oky.few; omega) h9 (fun sts rows m3 wk hrl hwid hmo hkp => ?_) (fun m3 hkp => ?_)
    · have hfl3 := hfl2.kp hkp
      have okc := selC_ok oky.nm wk hrl hwid
      have hcn : (selC y.d rows).n.length ≤ deeds := by
        have : (doneL y.d.length rows).length ≤ (List.range y.d.length).length := List.length_filter_le _ _
        rw [List.length_range] at this
        have e : (selC y.d rows).n.length = (doneL y.d.length rows).length := by unfold selC; simp
        omega
      have hcr : (selC y.d rows).r.length ≤ most := by
        have e : (selC y.d rows).r.length = rows.length := by unfold selC; simp
        omega
      generalize selC y.d rows = c at okc hcn hcr
      have elen : gIx (chaD c) (.int 1) m3 = .ok (.tup (c.r.map rowD)) m3 := by unfold chaD; simp
      have enon : isNon (chaD c) = false := rfl
      simp [b__law_map_1s1, enon, elen]
      by_cases hq : 0 < f ∧ 1 < c.r.length
      · rw [if_pos hq.1, if_pos (by have := hq.2; omega)]
        simp [b__law_map_0]
        refine reordered_then hfl3.at okc.rows.pos (by omega) (fun x hx => by rw [okc.rows.wid x hx]; omega) okc.rows.rng fun ord m4 ho hfl4 => ?_
        have ok4 : OkRows c.n.length (reR ord c.r) := okc.rows.re ho
        have rl4 : (reR ord c.r).length = c.r.length := by unfold reR; rw [List.length_map, ho.len]
        have hfl4 := hfl3.trans hfl4
        generalize reR ord c.r = r4 at ok4 rl4
        simp [b__law_map_0s1]
        refine marred_then (c := ⟨c.n, r4⟩) hfl4.at ok4 (by show c.n.length ≤ _; omega) (by show r4.length ≤ _; omega) fun r5 m5 ok5 rl5 hfl5 => ?_
        have rl5 : r5.length = r4.length := rl5
        have hfl5 := hfl4.trans hfl5
        by_cases hf3 : f = 3
        · simp [hf3]
          exact h ⟨c.n, r5⟩ m5 ⟨okc.nms, ok5⟩ hcn (by show r5.length ≤ _; omega) hfl5
        · have hf3' : ¬ ((f : Int) = 3) := by omega
          simp [hf3, hf3']
          exact h ⟨c.n, r4⟩ m5 ⟨okc.nms, ok4⟩ hcn (by show r4.length ≤ _; omega) hfl5
      · by_cases q1 : 0 < f
        · have q2 : ¬ 1 < c.r.length := fun z => hq ⟨q1, z⟩
          rw [if_pos q1, if_neg (by omega)]
          exact hfl3
        · rw [if_neg q1]
          exact hfl3
    · simp [b__law_map_1s1, isNon]
      exact hfl2.kp hkp
  · rintro η m' ⟨⟨e4, e5, rfl⟩, hfl⟩
    simp [b__law_map_s2]
    refine any_map_then hfl.at (by omega) h9 (by omega) (by omega) fun c m3 h1 h2 h3 h4 h5 => ?_
    exact h c m3 ⟨h1, h3⟩ h2 h4 (hfl.trans h5)
end
end V
end Mir

/-! Mir: two yards, put together. -/
namespace Mir
namespace V
open PySem PySem.Spec PyProof.Rows L2 Mir Mir.Y
end V
end Mir

/-! Mir: yards put together. -/
namespace Mir
namespace V
open PySem PySem.Spec PyProof.Rows L2 Mir Mir.Y
theorem gIn_sT {x : Str} {ys : List Str} {neg : Bool} {m : Mem} : gIn neg (.str x) (sT ys) m = .ok (.bl (decide (x ∈ ys) ^^ neg)) m := gIn_tstrs
theorem ix_sT {x : Str} {ys : List Str} {m : Mem} (h : x ∈ ys) : gIndexT (sT ys) [.str x] m = .ok (.int ((ixS ys x : Nat) : Int)) m := index_tup h
end V
end Mir

/-! Mir: maps put together: pairs of rooms as they come up. -/
namespace Mir
namespace V
open PySem PySem.Spec PyProof.Rows L2 Mir Mir.Y
/-- where a deed leads: the room itself where the map hasn't the deed -/
def ledP (c : Cha) (a : Nat) (x : Str) : Option Nat := if x ∈ c.n then oAt (rAt c.r a) (ixS c.n x) else some a
/-- pairs of rooms of both maps, each once -/
def OkOrd (c d : Cha) (ord : List (Nat × Nat)) : Prop := ord.Nodup ∧ ∀ p ∈ ord, p.1 < c.r.length ∧ p.2 < d.r.length
theorem OkOrd.len {c d : Cha} {ord : List (Nat × Nat)} (h : OkOrd c d ord) : ord.length ≤ c.r.length * d.r.length := by
  have nd : (ord.map fun p => p.1 * d.r.length + p.2).Nodup := by
    show List.Pairwise _ _
    rw [List.pairwise_map]
    refine List.Pairwise.imp_of_mem (fun {p q} hp hq hne e => hne ?_) h.1
    have h1 := (h.2 p hp).2
    have h2 := (h.2 q hq).2
    have e1 : (p.1 * d.r.length + p.2) % d.r.length = p.2 := by rw [Nat.mul_comm, Nat.mul_add_mod, Nat.mod_eq_of_lt h1]
    have e2 : (q.1 * d.r.length + q.2) % d.r.length = q.2 := by rw [Nat.mul_comm, Nat.mul_add_mod, Nat.mod_eq_of_lt h2]
    have e3 : p.2 = q.2 := by rw [← e1, ← e2, e]
    have e4 : p.1 * d.r.length = q.1 * d.r.length := by omega
    have e5 := Nat.eq_of_mul_eq_mul_right (by omega) e4
    exact Prod.ext e5 e3
  have := nodup_len (c.r.length * d.r.length) _ nd (fun a ha => by
    obtain ⟨p, hp, rfl⟩ := List.mem_map.mp ha
    obtain ⟨h1, h2⟩ := h.2 p hp
    calc p.1 * d.r.length + p.2 < p.1 * d.r.length + d.r.length := by omega
      _ = (p.1 + 1) * d.r.length := by rw [Nat.add_mul]; omega
      _ ≤ c.r.length * d.r.length := Nat.mul_le_mul_right _ h1)
  simpa using this
section
variable {m : Mem} {c d : Cha} {P : D → Mem → Prop}
end
end V
end Mir

/-! Mir: the map of two maps. -/
namespace Mir
namespace V
open PySem PySem.Spec PyProof.Rows L2 Mir Mir.Y
section
variable {m : Mem} {c d : Cha} {P : D → Mem → Prop}
end
end V
end Mir

/-! Mir: the walk of the yard of both is the map of both their maps. -/
namespace Mir
namespace V
open PySem PySem.Spec PyProof.Rows L2 Mir Mir.Y
theorem led_len' {hs : List Hea} {st : List Int} {k : Nat} (h : st.length = hs.length) : (ledL hs st k).length = hs.length := by unfold ledL; simp [h]
theorem led_nn {hs : List Hea} {st : List Int} {k : Nat} (hl : ∀ x ∈ hs, ∀ k, 0 ≤ lk x k) (ht : thereB hs st k = true) : ∀ v ∈ ledL hs st k, 0 ≤ v := fun v hv => by
  unfold ledL at hv
  obtain ⟨p, hp, rfl⟩ := List.mem_map.mp hv
  unfold thereB at ht
  have h1 := List.all_eq_true.mp ht p hp
  have h2 := hl p.2 (List.of_mem_zip hp).2 k
  simp at h1
  omega
/-- stands of a walk: as many counts as heaps, none below nought -/
theorem wk_nn {hs : List Hea} {sts : List (List Int)} {rows : Rows'} (wk : Wk hs (hs.map Hea.s) sts rows) (h0 : ∀ x ∈ hs, 0 ≤ x.s) (hl : ∀ x ∈ hs, ∀ k, 0 ≤ lk x k) : ∀ (n b : Nat) (st : List Int), b ≤ n → sts[b]? = some st → st.length = hs.length ∧ ∀ v ∈ st, 0 ≤ v := by
  intro n
  induction n with
  | zero =>
    intro b st hb he
    have : b = 0 := by omega
    subst this
    rw [wk.st0] at he
    cases he
    refine ⟨by simp, fun v hv => ?_⟩
    obtain ⟨x, hx, rfl⟩ := List.mem_map.mp hv
    exact h0 x hx
  | succ n ih =>
    intro b st hb he
    rcases wk.com b (List.getElem?_eq_some_iff.mp he).1 with rfl | ⟨a, k, hab, x, h1, h2⟩
    · exact ih 0 st (by omega) he
    · obtain ⟨s, e1, _, e3⟩ := wk.row a k x _ h1 h2
      obtain ⟨t1, t2⟩ := e3 b rfl
      rw [he] at t2
      cases t2
      obtain ⟨l1, _⟩ := ih a s (by omega) e1
      exact ⟨led_len' l1, led_nn hl t1⟩
/-- a yard whose walk is whole and does each deed -/
structure Full (y : Yar) (most : Nat) (S : List (List Int)) (R : Rows') : Prop where
  walk : walkY y most = (S, R)
  fin : R.length = S.length
  fit : Fit y.d.length y.h
  s0 : ∀ x ∈ y.h, 0 ≤ x.s
  lay : ∀ x ∈ y.h, ∀ k, 0 ≤ lk x k
  all : ∀ k, k < y.d.length → ∃ a b, way R a k b
variable {y z : Yar} {most : Nat} {S S1 S2 : List (List Int)} {R R1 R2 : Rows'}
theorem Full.wk (f : Full y most S R) : Wk y.h (y.h.map Hea.s) S R := by
  have := (walkY_wk y most).wk
  rw [f.walk] at this
  exact this
theorem Full.wid (f : Full y most S R) : ∀ x ∈ R, x.length = y.d.length := by
  have := (walkY_wk y most).wid
  rw [f.walk] at this
  exact this
theorem Full.rng (f : Full y most S R) : ∀ a k b, way R a k b → b < R.length := fun a k b ⟨x, h1, h2⟩ => by
  obtain ⟨s, _, _, e3⟩ := f.wk.row a k x _ h1 h2
  rw [f.fin]
  exact (List.getElem?_eq_some_iff.mp (e3 b rfl).2).1
theorem Full.pos (f : Full y most S R) : 0 < R.length := by
  rw [f.fin]
  exact (List.getElem?_eq_some_iff.mp f.wk.st0).1
theorem Full.at' (f : Full y most S R) {a : Nat} (ha : a < R.length) : S[a]? = some (stA S a) := by
  unfold Y.stA
  rw [List.getD_eq_getElem?_getD, List.getElem?_eq_getElem (by rw [← f.fin]; exact ha)]
  rfl
theorem Full.nn (f : Full y most S R) {a : Nat} (ha : a < R.length) : (stA S a).length = y.h.length ∧ ∀ v ∈ stA S a, 0 ≤ v := wk_nn f.wk f.s0 f.lay a a _ (Nat.le_refl _) (f.at' ha)
theorem Full.inj (f : Full y most S R) {a b : Nat} (ha : a < R.length) (hb : b < R.length) (e : stA S a = stA S b) : a = b := by
  have h1 := f.at' ha
  have h2 := f.at' hb
  rw [e, ← h2] at h1
  exact (List.getElem?_inj (by rw [← f.fin]; exact ha) f.wk.nd).mp h1
/-- what a name does at a room of the walk -/
theorem Full.led (f : Full y most S R) {a : Nat} (ha : a < R.length) {x : Str} (hx : x ∈ y.d) : thereB y.h (stA S a) (ixS y.d x) = (ledP ⟨y.d, R⟩ a x).isSome ∧ ∀ b, ledP ⟨y.d, R⟩ a x = some b → ledL y.h (stA S a) (ixS y.d x) = stA S b ∧ b < R.length := by
  have hk := (ixS_ok hx).2.1
  have hr : R[a]? = some (rAt R a) := rAt_some ha
  have hl : (rAt R a).length = y.d.length := f.wid _ (rAt_mem ha)
  have ho := oAt_get (x := rAt R a) (k := ixS y.d x) (by omega)
  obtain ⟨st, e1, e2, e3⟩ := f.wk.row a _ _ _ hr ho
  rw [f.at' ha] at e1
  cases e1
  have el : ledP ⟨y.d, R⟩ a x = oAt (rAt R a) (ixS y.d x) := by unfold ledP; rw [if_pos hx]
  rw [el]
  cases hq : oAt (rAt R a) (ixS y.d x) with
  | none => exact ⟨e2 hq, fun b e => by cases e⟩
  | some b =>
    obtain ⟨t1, t2⟩ := e3 b hq
    refine ⟨t1, fun b' e => ?_⟩
    cases e
    have hb : b < R.length := by rw [f.fin]; exact (List.getElem?_eq_some_iff.mp t2).1
    rw [f.at' hb] at t2
    exact ⟨(Option.some.inj t2).symm, hb⟩
end V
end Mir

/-! Mir: a yard with the deeds alone that are done. -/
namespace Mir
namespace V
open PySem PySem.Spec PyProof.Rows L2 Mir Mir.Y
end V
end Mir

/-! Mir: what lies behind a row: the yard's stand, the map's room. -/
namespace Mir
namespace V
open PySem PySem.Spec PyProof.Rows L2 Mir Mir.Y
open Sx (sm)
/-! ### the stand behind a row -/
/-- a list of texts that is read -/
def Txs (m : Mem) (d : D) (xs : List Str) : Prop := ∃ src, srcOf m d = some (src, xs.length) ∧ ∀ k, k ≤ xs.length → src k m = some (xs.map D.str)[k]?
theorem txs_sT {m : Mem} {xs : List Str} : Txs m (sT xs) xs := by
  refine ⟨srcL (xs.map .str), ?_, fun k _ => rfl⟩
  show some (srcL (xs.map D.str), (xs.map D.str).length) = _
  rw [List.length_map]
/-! ### where a name leads in a map -/
def leadC (c : Cha) (a : Nat) (x : Str) : Option Nat := if x ∈ c.n then oAt (rAt c.r a) (ixS c.n x) else none
def beh (c : Cha) : List Str → Nat → Option Nat
  | [], a => some a
  | x :: r, a => (leadC c a x).bind (beh c r)
theorem beh_cons (c : Cha) (x : Str) (r : List Str) (a : Nat) : beh c (x :: r) a = (leadC c a x).bind (beh c r) := rfl
theorem leadC_lt {c : Cha} (rng : ∀ a k b, way c.r a k b → b < c.r.length) {a b : Nat} {x : Str} (ha : a < c.r.length) (h : leadC c a x = some b) : b < c.r.length := by
  unfold leadC at h
  split at h
  · exact rng _ _ _ (oAt_way ha h)
  · cases h
section
variable {m : Mem} {c : Cha}
theorem behind_eq {a : Nat} {d : D} {xs : List Str} (wid : ∀ x ∈ c.r, x.length = c.n.length) (rng : ∀ a k b, way c.r a k b → b < c.r.length) (ha : a < c.r.length) (hd : Txs m d xs) : m_behind [chaD c, .int (a : Nat), d] m = .ok (oD (beh c xs a)) m := by
  have key : Tri (m_behind [chaD c, .int (a : Nat), d] m) (fun z m' => z = oD (beh c xs a) ∧ m' = m) := by
    refine tri_fn rfl ?_
    obtain ⟨src, hs, hsrc⟩ := hd
    have ec : chaD c = .tup [sT c.n, .tup (c.r.map rowD)] := rfl
    simp [b_behind, ec, b_behind_s1, hs]
    obtain ⟨Inv, hInv⟩ : ∃ I : Nat → Env' → Mem → Prop, ∀ k η m', I k η m' ↔ (m' = m ∧ ∃ (b : Nat) (e3 : Option D), b < c.r.length ∧ η = [some (.tup [sT c.n, .tup (c.r.map rowD)]), some (.int (b : Nat)), some d, e3, some (sT c.n), some (.tup (c.r.map rowD))] ∧ beh c xs a = beh c (xs.drop k) b) := ⟨_, fun _ _ _ => Iff.rfl⟩
    refine loop_src (ds := xs.map D.str) Inv (by simp) (fun k η m' hk hI => ?_) ((hInv _ _ _).mpr ⟨rfl, a, _, ha, rfl, rfl⟩) (fun k dd η m' hdd hI => ?_) (fun η m' hI => ?_)
    · obtain ⟨rfl, _⟩ := (hInv _ _ _).mp hI
      exact hsrc k (by simpa using hk)
    · obtain ⟨rfl, b, e3, hb, rfl, he⟩ := (hInv _ _ _).mp hI
      rw [List.getElem?_map] at hdd
      cases hx : xs[k]? with
      | none => rw [hx] at hdd; cases hdd
      | some x =>
      rw [hx] at hdd
      cases hdd
      have hdrop : xs.drop k = x :: xs.drop (k + 1) := by
        obtain ⟨h1, h2⟩ := List.getElem?_eq_some_iff.mp hx
        rw [List.drop_eq_getElem_cons h1, h2]
      rw [hdrop, beh_cons] at he
      simp [b_behind_0, gIn_sT]
      by_cases hin : x ∈ c.n
      · have hk := (ixS_ok hin).2.1
        have hl : (rAt c.r b).length = c.n.length := wid _ (rAt_mem hb)
        have hty : isTy "tuple" m' (sT c.n) = true := rfl
        have el : leadC c b x = oAt (rAt c.r b) (ixS c.n x) := if_pos hin
        rw [el] at he
        simp [hin, hty, ix_sT hin, gIx_rows hb, gIx_row (show ixS c.n x < (rAt c.r b).length by omega), oD_non]
        cases ho : oAt (rAt c.r b) (ixS c.n x) with
        | none =>
          rw [ho] at he
          simp [he, oD]
        | some b2 =>
          rw [ho] at he
          simp [b_behind_0s1, hty, ix_sT hin, gIx_rows hb, gIx_row (show ixS c.n x < (rAt c.r b).length by omega), ho, oD]
          exact (hInv _ _ _).mpr ⟨rfl, b2, _, rng _ _ _ (oAt_way hb ho), rfl, he⟩
      · have el : leadC c b x = none := if_neg hin
        rw [el] at he
        simp [hin, he, oD]
    · obtain ⟨rfl, b, e3, hb, rfl, he⟩ := (hInv _ _ _).mp hI
      rw [List.length_map, List.drop_length] at he
      simp [b_behind_s2, he]
      rfl
  obtain ⟨z, m', e, rfl, rfl⟩ := key.ex
  exact e
end
/-! ### the told map of a yard's walk -/
section
variable {ns : List Str} {hs : List Hea} {S : List (List Int)} {R : Rows'}
end
/-! ### rows of deeds by their numbers -/
end V
end Mir

namespace Lw
open PySem PySem.Spec PyProof.Rows L2 Mir Mir.Y
theorem hu1 {A : Around} {k : Nat} (hr : Room k A) : A.units + 65 < cLine := by have := hr.un; omega
theorem hd1 {A : Around} {k : Nat} (hr : Room k A) : A.units + 1 < cLine := by have := hr.un; omega
theorem hd2 {A : Around} {k : Nat} (hr : Room k A) : A.in1.in1.units < cLine := by have := hr.un; show A.units + 2 < cLine; omega
/-! ### the text -/
def topS (i : Nat) : Stmt := PySem.Challenge.pw_heaploom_k07_rows_followed.main.body.getD i (.Pass ⟨0, 0, 0, 0⟩)
abbrev st_behind : Stmt := topS 1
theorem sc_behind : FnScope ["chart", "room", "row", "deed", "deeds", "rooms"] ["chart", "room", "row"] (defScope st_behind) := ⟨rfl, rfl, rfl, by decide +kernel, rfl, by decide +kernel, by decide +kernel⟩
abbrev st_ways_of : Stmt := topS 2
theorem sc_ways_of : FnScope ["chart", "found", "s", "room", "k", "goal"] ["chart"] (defScope st_ways_of) := ⟨rfl, rfl, rfl, by decide +kernel, rfl, by decide +kernel, by decide +kernel⟩
abbrev st__law_flow : Stmt := topS 4
theorem sc__law_flow : FnScope ["_law_script"] ["_law_script"] (defScope st__law_flow) := ⟨rfl, rfl, rfl, by decide +kernel, rfl, by decide +kernel, by decide +kernel⟩
abbrev st__law_pick : Stmt := topS 5
theorem sc__law_pick : FnScope ["_law_flow_here", "_law_many", "_law_cell", "_law_digit"] ["_law_flow_here", "_law_many"] (defScope st__law_pick) := ⟨rfl, rfl, rfl, by decide +kernel, rfl, by decide +kernel, by decide +kernel⟩
abbrev st__law_shuffled : Stmt := topS 6
theorem sc__law_shuffled : FnScope ["_law_flow_here", "_law_some", "_law_left", "_law_k"] ["_law_flow_here", "_law_some"] (defScope st__law_shuffled) := ⟨rfl, rfl, rfl, by decide +kernel, rfl, by decide +kernel, by decide +kernel⟩
abbrev st__law_word : Stmt := topS 7
theorem sc__law_word : FnScope ["_law_flow_here", "_law_letters", "_law_word_here", "_law_k"] ["_law_flow_here"] (defScope st__law_word) := ⟨rfl, rfl, rfl, by decide +kernel, rfl, by decide +kernel, by decide +kernel⟩
abbrev st__law_names : Stmt := topS 8
theorem sc__law_names : FnScope ["_law_flow_here", "_law_many", "_law_letters", "_law_core", "_law_at", "_law_turn", "_law_near", "_law_found", "_law_k", "_law_word_here", "_law_spare"] ["_law_flow_here", "_law_many"] (defScope st__law_names) := ⟨rfl, rfl, rfl, by decide +kernel, rfl, by decide +kernel, by decide +kernel⟩
abbrev st__law_any_map : Stmt := topS 9
theorem sc__law_any_map : FnScope ["_law_flow_here", "_law_most", "_law_deeds", "_law_many", "_law_wide", "_law_rows", "_law_to", "_law_thin", "_law_spot", "_law_k", "_law_free", "_law_names_here"] ["_law_flow_here", "_law_most", "_law_deeds"] (defScope st__law_any_map) := ⟨rfl, rfl, rfl, by decide +kernel, rfl, by decide +kernel, by decide +kernel⟩
abbrev st__law_reordered : Stmt := topS 10
theorem sc__law_reordered : FnScope ["_law_flow_here", "_law_plan", "_law_order", "_law_rows", "_law_spot", "_law_to"] ["_law_flow_here", "_law_plan"] (defScope st__law_reordered) := ⟨rfl, rfl, rfl, by decide +kernel, rfl, by decide +kernel, by decide +kernel⟩
abbrev st__law_plain_row : Stmt := topS 11
theorem sc__law_plain_row : FnScope ["_law_names_here", "_law_to"] ["_law_names_here"] (defScope st__law_plain_row) := ⟨rfl, rfl, rfl, by decide +kernel, rfl, by decide +kernel, by decide +kernel⟩
abbrev st__law_is_there : Stmt := topS 12
theorem sc__law_is_there : FnScope ["_law_heaps", "_law_stand", "_law_k", "_law_heap_here", "_law_count"] ["_law_heaps", "_law_stand", "_law_k"] (defScope st__law_is_there) := ⟨rfl, rfl, rfl, by decide +kernel, rfl, by decide +kernel, by decide +kernel⟩
abbrev st__law_led : Stmt := topS 13
theorem sc__law_led : FnScope ["_law_heaps", "_law_stand", "_law_k", "_law_heap_here", "_law_count"] ["_law_heaps", "_law_stand", "_law_k"] (defScope st__law_led) := ⟨rfl, rfl, rfl, by decide +kernel, rfl, by decide +kernel, by decide +kernel⟩
abbrev st__law_walked : Stmt := topS 14
theorem sc__law_walked : FnScope ["_law_yard", "_law_most", "_law_stands", "_law_rows", "_law_deeds", "_law_heaps", "_law_here", "_law_names_here", "_law_k", "_law_there", "_law_heap_here"] ["_law_yard", "_law_most"] (defScope st__law_walked) := ⟨rfl, rfl, rfl, by decide +kernel, rfl, by decide +kernel, by decide +kernel⟩
abbrev st__law_heap : Stmt := topS 15
theorem sc__law_heap : FnScope ["_law_flow_here", "_law_deeds", "_law_most", "_law_takes", "_law_lays", "_law_k"] ["_law_flow_here", "_law_deeds", "_law_most"] (defScope st__law_heap) := ⟨rfl, rfl, rfl, by decide +kernel, rfl, by decide +kernel, by decide +kernel⟩
abbrev st__law_fuel : Stmt := topS 16
theorem sc__law_fuel : FnScope ["_law_flow_here", "_law_deeds", "_law_takes", "_law_k"] ["_law_flow_here", "_law_deeds"] (defScope st__law_fuel) := ⟨rfl, rfl, rfl, by decide +kernel, rfl, by decide +kernel, by decide +kernel⟩
abbrev st__law_ring_heaps : Stmt := topS 17
theorem sc__law_ring_heaps : FnScope ["_law_flow_here", "_law_deeds", "_law_ways", "_law_one", "_law_k", "_law_w"] ["_law_flow_here", "_law_deeds"] (defScope st__law_ring_heaps) := ⟨rfl, rfl, rfl, by decide +kernel, rfl, by decide +kernel, by decide +kernel⟩
abbrev st__law_any_yard : Stmt := topS 18
theorem sc__law_any_yard : FnScope ["_law_flow_here", "_law_most", "_law_deeds", "_law_heaps", "_law_k", "_law_form"] ["_law_flow_here", "_law_most"] (defScope st__law_any_yard) := ⟨rfl, rfl, rfl, by decide +kernel, rfl, by decide +kernel, by decide +kernel⟩
abbrev st__law_map_of : Stmt := topS 19
theorem sc__law_map_of : FnScope ["_law_yard", "_law_most", "_law_found", "_law_rows", "_law_done", "_law_k", "_law_names_here"] ["_law_yard", "_law_most"] (defScope st__law_map_of) := ⟨rfl, rfl, rfl, by decide +kernel, rfl, by decide +kernel, by decide +kernel⟩
abbrev st__law_is_map : Stmt := topS 20
theorem sc__law_is_map : FnScope ["_law_plan", "_law_order", "_law_at", "_law_idle", "_law_to", "_law_k", "_law_names_here"] ["_law_plan"] (defScope st__law_is_map) := ⟨rfl, rfl, rfl, by decide +kernel, rfl, by decide +kernel, by decide +kernel⟩
abbrev st__law_marred : Stmt := topS 21
theorem sc__law_marred : FnScope ["_law_flow_here", "_law_plan", "_law_to", "_law_names_here", "_law_found", "_law_spot", "_law_k"] ["_law_flow_here", "_law_plan"] (defScope st__law_marred) := ⟨rfl, rfl, rfl, by decide +kernel, rfl, by decide +kernel, by decide +kernel⟩
abbrev st__law_map : Stmt := topS 22
theorem sc__law_map : FnScope ["_law_flow_here", "_law_most", "_law_deeds", "_law_form", "_law_turn", "_law_plan"] ["_law_flow_here", "_law_most", "_law_deeds"] (defScope st__law_map) := ⟨rfl, rfl, rfl, by decide +kernel, rfl, by decide +kernel, by decide +kernel⟩
abbrev st__law_alike : Stmt := topS 23
theorem sc__law_alike : FnScope ["_law_found", "_law_due_here", "_law_one", "_law_other"] ["_law_found", "_law_due_here"] (defScope st__law_alike) := ⟨rfl, rfl, rfl, by decide +kernel, rfl, by decide +kernel, by decide +kernel⟩
abbrev st__law_row : Stmt := topS 24
theorem sc__law_row : FnScope ["_law_flow_here", "_law_plan", "_law_here", "_law_names_here", "_law_k", "_law_there"] ["_law_flow_here", "_law_plan", "_law_here"] (defScope st__law_row) := ⟨rfl, rfl, rfl, by decide +kernel, rfl, by decide +kernel, by decide +kernel⟩
abbrev st__law_due : Stmt := topS 25
theorem sc__law_due : FnScope ["_law_plan", "_law_spot", "_law_names_here", "_law_goals", "_law_name", "_law_here", "_law_k", "_law_to"] ["_law_plan", "_law_spot", "_law_names_here"] (defScope st__law_due) := ⟨rfl, rfl, rfl, by decide +kernel, rfl, by decide +kernel, by decide +kernel⟩
abbrev st__law_all_ways : Stmt := topS 26
theorem sc__law_all_ways : FnScope ["_law_plan", "_law_found", "_law_spot", "_law_k"] ["_law_plan"] (defScope st__law_all_ways) := ⟨rfl, rfl, rfl, by decide +kernel, rfl, by decide +kernel, by decide +kernel⟩
abbrev st__law_right : Stmt := topS 27
theorem sc__law_right : FnScope ["_law_flow_here", "_law_plan", "_law_k", "_law_found", "_law_spot", "_law_names_here"] ["_law_flow_here", "_law_plan"] (defScope st__law_right) := ⟨rfl, rfl, rfl, by decide +kernel, rfl, by decide +kernel, by decide +kernel⟩
abbrev st_law : Stmt := topS 28
theorem sc_law : FnScope ["_law_script", "_law_flow_here", "_law_charts", "_law_plan"] ["_law_script"] (defScope st_law) := ⟨rfl, rfl, rfl, by decide +kernel, rfl, by decide +kernel, by decide +kernel⟩
/-! ### the mirrors -/
def b__law_all_ways_s2 : SM := (mRet (mVar 1))
def b__law_all_ways_s1 : SM := mSeq (mFor (mRng1 (mCB bLen (mCons (mOp gIx (mVar 0) (mC (.int 1))) mNil))) (gNm 2) (mFor (mRng1 (mCB bLen (mCons (mOp gIx (mVar 0) (mC (.int 0))) mNil))) (gNm 3) (mIfS (mTest (mOp (gIs true) (mOp gIx (mOp gIx (mOp gIx (mVar 0) (mC (.int 1))) (mVar 2)) (mVar 3)) (mC .non))) (mDrop (mBM "list" gAppend (mVar 1) (mCons (mTup (mCons (mVar 2) (mCons (mVar 3) (mCons (mOp gIx (mOp gIx (mOp gIx (mVar 0) (mC (.int 1))) (mVar 2)) (mVar 3)) mNil)))) mNil))) mSkip))) b__law_all_ways_s2
def b__law_all_ways : SM := mSeq (mAsg (mLst true mNil) (gNm 1)) b__law_all_ways_s1
def m__law_all_ways : FM := mFn 1 4 b__law_all_ways
noncomputable def b__law_due_0s1 (hs : Str → Int) : SM := (mAsg (mOp (gXGet hs) (mVar 3) (mTup (mCons (mVar 1) (mCons (mVar 4) mNil)))) (gNm 1))
noncomputable def b__law_due_0 (hs : Str → Int) : SM := mSeq (mIfS (mTest (mOp (gXIn hs true) (mTup (mCons (mVar 1) (mCons (mVar 4) mNil))) (mVar 3))) (mRet (mC .non)) mSkip) (b__law_due_0s1 hs)
noncomputable def b__law_due_s3 (hs : Str → Int) : SM := (mRet (mVar 1))
noncomputable def b__law_due_s2 (hs : Str → Int) : SM := mSeq (mFor (mIt (mVar 2)) (gNm 4) (b__law_due_0 hs)) (b__law_due_s3 hs)
noncomputable def b__law_due_s1 (hs : Str → Int) : SM := mSeq (mFor (mIt (mCall m__law_all_ways (mCons (mVar 0) mNil))) (gTp 3 (gsCons (gNm 5) (gsCons (gNm 6) (gsCons (gNm 7) gsNil)))) (mXPut hs (mVar 3) (mTup (mCons (mVar 5) (mCons (mOp gIx (mOp gIx (mVar 0) (mC (.int 0))) (mVar 6)) mNil))) (mVar 7))) (b__law_due_s2 hs)
noncomputable def b__law_due (hs : Str → Int) : SM := mSeq (mAsg (mXNew hs) (gNm 3)) (b__law_due_s1 hs)
noncomputable def m__law_due (hs : Str → Int) : FM := mFn 3 8 (b__law_due hs)
def b__law_row_0s2 : SM := (mAsg (mOp gIx (mOp gIx (mOp gIx (mVar 1) (mC (.int 1))) (mVar 2)) (mVar 4)) (gNm 2))
def b__law_row_0s1 : SM := mSeq (mDrop (mBM "list" gAppend (mVar 3) (mCons (mOp gIx (mOp gIx (mVar 1) (mC (.int 0))) (mVar 4)) mNil))) b__law_row_0s2
def b__law_row_0 : SM := mSeq (mAsg (mOp gIx (mVar 5) (mCall m__law_pick (mCons (mVar 0) (mCons (mCB bLen (mCons (mVar 5) mNil)) mNil)))) (gNm 4)) b__law_row_0s1
def b__law_row_1s1 : SM := (mIfS (mOr (mTest (mOp (gEq false) (mCall m__law_pick (mCons (mVar 0) (mCons (mC (.int 8)) mNil))) (mC (.int 0)))) (mTest (mOp (gEq false) (mVar 5) (mLst false mNil)))) (mDrop (mBM "list" gAppend (mVar 3) (mCons (mOp gIx (mOp (gAdd false) (mCB (bList false) (mCons (mOp gIx (mVar 1) (mC (.int 0))) mNil)) (mLst false (mCons (mCall m__law_word (mCons (mVar 0) mNil)) mNil))) (mCall m__law_pick (mCons (mVar 0) (mCons (mOp (gAdd false) (mCB bLen (mCons (mOp gIx (mVar 1) (mC (.int 0))) mNil)) (mC (.int 1))) mNil)))) mNil))) b__law_row_0)
def b__law_row_1 : SM := mSeq (mAsg (mLc [4] false (mRng1 (mCB bLen (mCons (mOp gIx (mVar 1) (mC (.int 0))) mNil))) (gNm 4) (mTest (mOp (gIs true) (mOp gIx (mOp gIx (mOp gIx (mVar 1) (mC (.int 1))) (mVar 2)) (mVar 4)) (mC .non))) (mVar 4)) (gNm 5)) b__law_row_1s1
def b__law_row_s2 : SM := (mRet (mCB bTuple (mCons (mVar 3) mNil)))
def b__law_row_s1 : SM := mSeq (mFor (mRng1 (mOp gIx (mLst false (mCons (mCall m__law_pick (mCons (mVar 0) (mCons (mC (.int 13)) mNil))) (mCons (mCall m__law_pick (mCons (mVar 0) (mCons (mC (.int 31)) mNil))) mNil))) (mCall m__law_pick (mCons (mVar 0) (mCons (mC (.int 2)) mNil))))) (gNm 4) b__law_row_1) b__law_row_s2
def b__law_row : SM := mSeq (mAsg (mLst true mNil) (gNm 3)) b__law_row_s1
def m__law_row : FM := mFn 3 6 b__law_row
noncomputable def b__law_right_0s3 (hs : Str → Int) : SM := (mIfS (mNot (mTru (mCall (m__law_alike 12) (mCons (mCallK 0 (List.length [Str.ofString "row", Str.ofString "chart", Str.ofString "room"]) [1, 2, 0] [] m_behind mNil (mCons (mVar 5) (mCons (mVar 1) (mCons (mVar 4) mNil)))) (mCons (mCall (m__law_due hs) (mCons (mVar 1) (mCons (mVar 4) (mCons (mVar 5) mNil)))) mNil))))) (mRet (mC (.bl false))) mSkip)
noncomputable def b__law_right_0s2 (hs : Str → Int) : SM := mSeq (mIfS (mNot (mTru (mCall (m__law_alike 12) (mCons (mCall m_behind (mCons (mVar 1) (mCons (mVar 4) (mCons (mVar 5) mNil)))) (mCons (mCall (m__law_due hs) (mCons (mVar 1) (mCons (mVar 4) (mCons (mVar 5) mNil)))) mNil))))) (mRet (mC (.bl false))) mSkip) (b__law_right_0s3 hs)
noncomputable def b__law_right_0s1 (hs : Str → Int) : SM := mSeq (mAsg (mCall m__law_row (mCons (mVar 0) (mCons (mVar 1) (mCons (mVar 4) mNil)))) (gNm 5)) (b__law_right_0s2 hs)
noncomputable def b__law_right_0 (hs : Str → Int) : SM := mSeq (mAsg (mCall m__law_pick (mCons (mVar 0) (mCons (mCB bLen (mCons (mOp gIx (mVar 1) (mC (.int 1))) mNil)) mNil))) (gNm 4)) (b__law_right_0s1 hs)
noncomputable def b__law_right_s4 (hs : Str → Int) : SM := (mRet (mCall (m__law_alike 12) (mCons (mCallK 0 (List.length [Str.ofString "chart"]) [0] [] m_ways_of mNil (mCons (mVar 1) mNil)) (mCons (mCall m__law_all_ways (mCons (mVar 1) mNil)) mNil))))
noncomputable def b__law_right_s3 (hs : Str → Int) : SM := mSeq (mDrop (mBM "list" gClear (mVar 3) mNil)) (b__law_right_s4 hs)
noncomputable def b__law_right_s2 (hs : Str → Int) : SM := mSeq (mIfS (mNot (mTru (mCall (m__law_alike 12) (mCons (mVar 3) (mCons (mCall m__law_all_ways (mCons (mVar 1) mNil)) mNil))))) (mRet (mC (.bl false))) mSkip) (b__law_right_s3 hs)
noncomputable def b__law_right_s1 (hs : Str → Int) : SM := mSeq (mAsg (mCall m_ways_of (mCons (mVar 1) mNil)) (gNm 3)) (b__law_right_s2 hs)
noncomputable def b__law_right (hs : Str → Int) : SM := mSeq (mFor (mRng1 (mC (.int 5))) (gNm 2) (b__law_right_0 hs)) (b__law_right_s1 hs)
noncomputable def m__law_right (hs : Str → Int) : FM := mFn 2 6 (b__law_right hs)
noncomputable def b_law_s2 (hs : Str → Int) : SM := (mRet (mCB (bAll fun bs => bs.all id) (mCons (mLc [3] false (mIt (mOp (gAdd false) (mVar 2) (mSl (gSl false) (mVar 2) mNoPart (mPart (mC (.int 1)))))) (gNm 3) mYes (mCall (m__law_right hs) (mCons (mVar 1) (mCons (mVar 3) mNil)))) mNil)))
noncomputable def b_law_s1 (hs : Str → Int) : SM := mSeq (mAsg (mLst false (mCons (mCall V.m__law_map (mCons (mVar 1) (mCons (mC (.int 8)) (mCons (mC (.int 5)) mNil)))) (mCons (mCall V.m__law_any_map (mCons (mVar 1) (mCons (mC (.int 8)) (mCons (mC (.int 5)) mNil)))) mNil))) (gNm 2)) (b_law_s2 hs)
noncomputable def b_law (hs : Str → Int) : SM := mSeq (mAsg (mCall m__law_flow (mCons (mVar 0) mNil)) (gNm 1)) (b_law_s1 hs)
noncomputable def m_law (hs : Str → Int) : FM := mFn 1 4 (b_law hs)
/-! ### the walks -/
structure Tx (K : PySem.W.Frag) (mg : Str → Option Value) : Prop where
  b_all : mg "all" = none
  b_any : mg "any" = none
  b_bool : mg "bool" = none
  b_enumerate : mg "enumerate" = none
  b_int : mg "int" = none
  b_isinstance : mg "isinstance" = none
  b_len : mg "len" = none
  b_list : mg "list" = none
  b_max : mg "max" = none
  b_range : mg "range" = none
  b_sorted : mg "sorted" = none
  b_str : mg "str" = none
  b_tuple : mg "tuple" = none
  b_zip : mg "zip" = none
section
variable {P : Program} {w : World} {K : PySem.W.Frag} {mg : Str → Option Value} {base : Heap}
theorem ok_behind (T : Tx K mg) {f : Addr} {fd : FuncData} (F : Fun K "behind" "behind" st_behind f fd) : FnOk P w K mg base CX0 1 f fd ["chart", "room", "row"] (sp0 K mg m_behind) :=
  fn_ok0 F sc_behind fun cdv A outer s H E hr =>
    (mss_cons (ms_asg (vs := [4, 5]) (mv 0) (mg_tup rfl (mgs_cons (mg_name (by decide) sc_behind.nd rfl (by first | exact .inl rfl | exact .inr rfl)) (mgs_cons (mg_name (by decide) sc_behind.nd rfl (by first | exact .inl rfl | exact .inr rfl)) mgs_nil))))
    (mss_cons (ms_for (vs := [3]) PassesOwn.never rfl (mi_it (mv 2)) (mg_name (by decide) sc_behind.nd rfl (by first | exact .inl rfl | exact .inr rfl)) (mss_cons (ms_if (mw_or (mt_cmp (om_notin (hu1 hr)) (mv 3) (mv 4) rfl) (mw_or1 (mt_cmp om_is (me_ix im_ix (me_ix im_ix (mv 5) (mv 1) (fun _ _ => rfl)) (me_bm PySem.F.plainAttrs_tuple PySem.F.slot_tuple_index PySem.F.type_tuple_index mm_indexT (mv 4) (ma_cons (mv 3) ma_nil)) (fun _ _ => rfl)) me_non (nomark _)))).pt (mss_one (ms_ret me_non)) mss_nil)
    (mss_one (ms_set sc_behind.nd rfl (by first | exact .inl rfl | exact .inr rfl) (me_ix im_ix (me_ix im_ix (mv 5) (mv 1) (fun _ _ => rfl)) (me_bm PySem.F.plainAttrs_tuple PySem.F.slot_tuple_index PySem.F.type_tuple_index mm_indexT (mv 4) (ma_cons (mv 3) ma_nil)) (fun _ _ => rfl))))))
    (mss_one (ms_ret (mv 1)))))
theorem ok_ways_of (T : Tx K mg) {f : Addr} {fd : FuncData} (F : Fun K "ways_of" "ways_of" st_ways_of f fd) : FnOk P w K mg base CX0 1 f fd ["chart"] (sp0 K mg m_ways_of) :=
  fn_ok0 F sc_ways_of fun cdv A outer s H E hr =>
    (mss_cons (ms_set sc_ways_of.nd rfl (by first | exact .inl rfl | exact .inr rfl) (me_lst true ma_nil))
    (mss_cons (ms_for (vs := [2, 3]) PassesOwn.never rfl (mi_enum T.b_enumerate (by rfl) (me_ix im_ix (mv 0) me_int (fun _ _ => rfl))) (mg_tupW rfl (mgs_cons (mg_name (by decide) sc_ways_of.nd rfl (by first | exact .inl rfl | exact .inr rfl)) (mgs_cons (mg_name (by decide) sc_ways_of.nd rfl (by first | exact .inl rfl | exact .inr rfl)) mgs_nil))) (mss_one (ms_expr (me_bm PySem.F.plainAttrs_list PySem.F.slot_list_extend PySem.F.type_list_extend mm_extend (mv 1) (ma_cons (me_lc false [("k", 4), ("goal", 5)] rfl sc_ways_of.nd (mi_enum T.b_enumerate (by rfl) (mv 3)) (blkOk_by (by kernel_rfl)) (fun _ _ _ _ _ => (mg_tupW rfl (mgs_cons (mg_name (by decide) sc_ways_of.nd rfl (by first | exact .inl rfl | exact .inr rfl)) (mgs_cons (mg_name (by decide) sc_ways_of.nd rfl (by first | exact .inl rfl | exact .inr rfl)) mgs_nil)))) (fun _ _ _ _ _ => (mts_one (mt_cmp om_isnot (mv 5) me_non (nomark _)))) (fun _ _ _ _ _ => (me_tup (ma_cons (mv 2) (ma_cons (mv 4) (ma_cons (mv 5) ma_nil)))))) ma_nil)))))
    (mss_one (ms_ret (mv 1)))))
theorem ok__law_flow (T : Tx K mg) {f : Addr} {fd : FuncData} (F : Fun K "_law_flow" "_law_flow" st__law_flow f fd) : FnOk P w K mg base CX0 1 f fd ["_law_script"] (sp0 K mg m__law_flow) :=
  fn_ok0 F sc__law_flow fun cdv A outer s H E hr =>
    (mss_one (ms_ret (me_lst true (ma_cons (me_callTy (cm_list false) T.b_list (by rfl) boot_list (ma_cons (mv 0) ma_nil)) (ma_cons me_int (ma_cons me_int (ma_cons me_int (ma_cons me_int ma_nil))))))))
theorem ok__law_pick (T : Tx K mg) {f : Addr} {fd : FuncData} (F : Fun K "_law_pick" "_law_pick" st__law_pick f fd) : FnOk P w K mg base CX0 1 f fd ["_law_flow_here", "_law_many"] (sp0 K mg m__law_pick) :=
  fn_ok0 F sc__law_pick fun cdv A outer s H E hr =>
    (mss_cons (ms_if (mw_and (mt_cmp (om_eq hr.units) (me_ix im_ix (mv 0) me_int (fun _ _ => rfl)) me_int (nomark _)) (mw_and1 (mt_cmp om_lt (me_ix im_ix (mv 0) me_int (fun _ _ => rfl)) (me_callB cm_len T.b_len (by rfl) PySem.boot_len (ma_cons (me_ix im_ix (mv 0) me_int (fun _ _ => rfl)) ma_nil)) (nomark _)))).pt (mss_cons (ms_set sc__law_pick.nd rfl (by first | exact .inl rfl | exact .inr rfl) (me_ix im_ix (me_ix im_ix (mv 0) me_int (fun _ _ => rfl)) (me_ix im_ix (mv 0) me_int (fun _ _ => rfl)) (fun _ _ => rfl)))
    (mss_cons (ms_asg (vs := []) (me_op (om_add false) (me_ix im_ix (mv 0) me_int (fun _ _ => rfl)) me_int) (mg_sub (mv 0) me_int))
    (mss_one (ms_if (mt_cmp om_ge (mv 2) (me_op om_pow me_int me_int) (nomark _)) (mss_one (ms_asg (vs := []) (mv 2) (mg_sub (mv 0) me_int))) (mss_one (ms_asg (vs := []) (me_op om_mod (me_op (om_add false) (me_op (om_add false) (me_op om_mul (me_ix im_ix (mv 0) me_int (fun _ _ => rfl)) me_int) (me_op om_mod (mv 2) me_int)) me_int) me_int) (mg_sub (mv 0) me_int))))))) mss_nil)
    (mss_cons (ms_if (mt_cmp om_gt (me_ix im_ix (mv 0) me_int (fun _ _ => rfl)) me_int (nomark _)) (mss_cons (ms_set sc__law_pick.nd rfl (by first | exact .inl rfl | exact .inr rfl) (me_op om_mod (me_ix im_ix (mv 0) me_int (fun _ _ => rfl)) (mv 1)))
    (mss_cons (ms_asg (vs := []) (me_op om_fdiv (me_ix im_ix (mv 0) me_int (fun _ _ => rfl)) (mv 1)) (mg_sub (mv 0) me_int))
    (mss_one (ms_ret (mv 3))))) mss_nil)
    (mss_cons (ms_asg (vs := []) (me_op (om_add false) (me_ix im_ix (mv 0) me_int (fun _ _ => rfl)) me_int) (mg_sub (mv 0) me_int))
    (mss_cons (ms_asg (vs := []) (me_op om_mod (me_op (om_add false) (me_op (om_add false) (me_op om_mul (me_ix im_ix (mv 0) me_int (fun _ _ => rfl)) me_int) me_int) (me_ix im_ix (mv 0) me_int (fun _ _ => rfl))) me_int) (mg_sub (mv 0) me_int))
    (mss_one (ms_ret (me_op om_mod (me_op om_fdiv (me_op om_mod (me_op om_mul (me_op (om_add false) (me_op om_mod (me_ix im_ix (mv 0) me_int (fun _ _ => rfl)) me_int) me_int) (me_op (om_add false) (me_op om_fdiv (me_ix im_ix (mv 0) me_int (fun _ _ => rfl)) me_int) me_int)) me_int) me_int) (mv 1))))))))
theorem ok__law_shuffled (T : Tx K mg) (h__law_pick : FnD P w K mg base 1 "_law_pick" ["_law_flow_here", "_law_many"] m__law_pick) {f : Addr} {fd : FuncData} (F : Fun K "_law_shuffled" "_law_shuffled" st__law_shuffled f fd) : FnOk P w K mg base CX0 2 f fd ["_law_flow_here", "_law_some"] (sp0 K mg m__law_shuffled) :=
  fn_ok0 F sc__law_shuffled fun cdv A outer s H E hr =>
    (mss_cons (ms_set sc__law_shuffled.nd rfl (by first | exact .inl rfl | exact .inr rfl) (me_callTy (cm_list true) T.b_list (by rfl) boot_list (ma_cons (mv 1) ma_nil)))
    (mss_one (ms_ret (me_lc false [("_law_k", 3)] rfl sc__law_shuffled.nd (mi_rng1 T.b_range (by rfl) (me_callB cm_len T.b_len (by rfl) PySem.boot_len (ma_cons (mv 1) ma_nil))) (blkOk_by (by kernel_rfl)) (fun _ _ _ _ _ => (mg_name (by decide) sc__law_shuffled.nd rfl (by first | exact .inl rfl | exact .inr rfl))) (fun _ _ _ _ _ => mts_nil) (fun _ _ _ _ _ => (me_bm PySem.F.plainAttrs_list PySem.F.slot_list_pop PySem.F.type_list_pop mm_popAt (mv 2) (ma_cons (me_call h__law_pick (hr.mono (by decide)) (by rfl) (ma_cons (mv 0) (ma_cons (me_callB cm_len T.b_len (by rfl) PySem.boot_len (ma_cons (mv 2) ma_nil)) ma_nil))) ma_nil)))))))
theorem ok__law_word (T : Tx K mg) (h__law_pick : FnD P w K mg base 1 "_law_pick" ["_law_flow_here", "_law_many"] m__law_pick) {f : Addr} {fd : FuncData} (F : Fun K "_law_word" "_law_word" st__law_word f fd) : FnOk P w K mg base CX0 2 f fd ["_law_flow_here"] (sp0 K mg m__law_word) :=
  fn_ok0 F sc__law_word fun cdv A outer s H E hr =>
    (mss_cons (ms_set sc__law_word.nd rfl (by first | exact .inl rfl | exact .inr rfl) me_str)
    (mss_cons (ms_set sc__law_word.nd rfl (by first | exact .inl rfl | exact .inr rfl) (me_bm PySem.F.plainAttrs_str PySem.F.slot_str_join PySem.F.type_str_join mm_join me_str (ma_cons (me_lc false [("_law_k", 3)] rfl sc__law_word.nd (mi_rng1 T.b_range (by rfl) (me_op (om_add false) me_int (me_call h__law_pick (hr.mono (by decide)) (by rfl) (ma_cons (mv 0) (ma_cons me_int ma_nil))))) (blkOk_by (by kernel_rfl)) (fun _ _ _ _ _ => (mg_name (by decide) sc__law_word.nd rfl (by first | exact .inl rfl | exact .inr rfl))) (fun _ _ _ _ _ => mts_nil) (fun _ _ _ _ _ => (me_ix im_ix (mv 1) (me_call h__law_pick (hr.mono (by decide)) (by rfl) (ma_cons (mv 0) (ma_cons me_int ma_nil))) (fun _ _ => rfl)))) ma_nil)))
    (mss_cons (ms_if (mt_cmp (om_in (hu1 hr)) (mv 2) (me_tup (ma_cons me_str (ma_cons me_str (ma_cons me_str (ma_cons me_str (ma_cons me_str ma_nil)))))) rfl) (mss_one (ms_set sc__law_word.nd rfl (by first | exact .inl rfl | exact .inr rfl) (me_op (om_add false) (me_sl (sm_sl false) (mv 2) mo_none (mo_some (me_un um_neg me_int))) me_str))) mss_nil)
    (mss_one (ms_ret (mv 2))))))
theorem ok__law_names (T : Tx K mg) (h__law_pick : FnD P w K mg base 1 "_law_pick" ["_law_flow_here", "_law_many"] m__law_pick) (h__law_word : FnD P w K mg base 2 "_law_word" ["_law_flow_here"] m__law_word) {f : Addr} {fd : FuncData} (F : Fun K "_law_names" "_law_names" st__law_names f fd) : FnOk P w K mg base CX0 3 f fd ["_law_flow_here", "_law_many"] (sp0 K mg V.m__law_names) :=
  fn_ok0 F sc__law_names fun cdv A outer s H E hr =>
    (mss_cons (ms_set sc__law_names.nd rfl (by first | exact .inl rfl | exact .inr rfl) me_str)
    (mss_cons (ms_set sc__law_names.nd rfl (by first | exact .inl rfl | exact .inr rfl) (me_call h__law_word (hr.mono (by decide)) (by rfl) (ma_cons (mv 0) ma_nil)))
    (mss_cons (ms_set sc__law_names.nd rfl (by first | exact .inl rfl | exact .inr rfl) (me_call h__law_pick (hr.mono (by decide)) (by rfl) (ma_cons (mv 0) (ma_cons (me_callB cm_len T.b_len (by rfl) PySem.boot_len (ma_cons (mv 3) ma_nil)) ma_nil))))
    (mss_cons (ms_set sc__law_names.nd rfl (by first | exact .inl rfl | exact .inr rfl) (me_call h__law_pick (hr.mono (by decide)) (by rfl) (ma_cons (mv 0) (ma_cons me_int ma_nil))))
    (mss_cons (ms_set sc__law_names.nd rfl (by first | exact .inl rfl | exact .inr rfl) (me_cmp (om_eq hr.units) (me_call h__law_pick (hr.mono (by decide)) (by rfl) (ma_cons (mv 0) (ma_cons me_int ma_nil))) me_int (nomark _)))
    (mss_cons (ms_set sc__law_names.nd rfl (by first | exact .inl rfl | exact .inr rfl) (me_lst true ma_nil))
    (mss_cons (ms_for (vs := [8]) PassesOwn.never rfl (mi_rng1 T.b_range (by rfl) (mv 1)) (mg_name (by decide) sc__law_names.nd rfl (by first | exact .inl rfl | exact .inr rfl)) (mss_cons (ms_set sc__law_names.nd rfl (by first | exact .inl rfl | exact .inr rfl) (me_call h__law_word (hr.mono (by decide)) (by rfl) (ma_cons (mv 0) ma_nil)))
    (mss_cons (ms_if (mt_tru (mv 6)) (mss_one (ms_set sc__law_names.nd rfl (by first | exact .inl rfl | exact .inr rfl) (me_op (om_add false) (me_op (om_add false) (me_sl (sm_sl false) (mv 3) mo_none (mo_some (mv 4))) (me_ix im_ix (mv 2) (me_op om_mod (me_op (om_add false) (mv 5) (mv 8)) me_int) (fun _ _ => rfl))) (me_sl (sm_sl false) (mv 3) (mo_some (me_op (om_add false) (mv 4) me_int)) mo_none)))) mss_nil)
    (mss_cons (ms_set sc__law_names.nd rfl (by first | exact .inl rfl | exact .inr rfl) me_int)
    (mss_cons (ms_while PassesOwn.never (mw_or (mt_cmp (om_in (hu1 hr)) (mv 9) (mv 7) rfl) (mw_or1 (mt_cmp (om_in (hu1 hr)) (mv 9) (me_tup (ma_cons me_str (ma_cons me_str (ma_cons me_str (ma_cons me_str (ma_cons me_str ma_nil)))))) rfl))).pt (mss_cons (ms_set sc__law_names.nd rfl (by first | exact .inl rfl | exact .inr rfl) (me_op om_mulS (me_ix im_ix (mv 2) (me_op om_mod (mv 10) me_int) (fun _ _ => rfl)) (me_op (om_add false) me_int (me_op om_fdiv (mv 10) me_int))))
    (mss_one (ms_set sc__law_names.nd rfl (by first | exact .inl rfl | exact .inr rfl) (me_op (om_add false) (mv 10) me_int)))))
    (mss_one (ms_expr (me_bm PySem.F.plainAttrs_list PySem.F.slot_list_append PySem.F.type_list_append mm_append (mv 7) (ma_cons (mv 9) ma_nil)))))))))
    (mss_one (ms_ret (me_callTy cm_tuple T.b_tuple (by rfl) boot_tuple (ma_cons (me_callB (cm_sortedS false) T.b_sorted (by rfl) boot_sorted (ma_cons (mv 7) ma_nil)) ma_nil)))))))))))
theorem ok__law_any_map (T : Tx K mg) (h__law_names : FnD P w K mg base 3 "_law_names" ["_law_flow_here", "_law_many"] V.m__law_names) (h__law_pick : FnD P w K mg base 1 "_law_pick" ["_law_flow_here", "_law_many"] m__law_pick) (h__law_reordered : FnD P w K mg base 3 "_law_reordered" ["_law_flow_here", "_law_plan"] V.m__law_reordered) {f : Addr} {fd : FuncData} (F : Fun K "_law_any_map" "_law_any_map" st__law_any_map f fd) : FnOk P w K mg base CX0 4 f fd ["_law_flow_here", "_law_most", "_law_deeds"] (sp0 K mg V.m__law_any_map) :=
  fn_ok0 F sc__law_any_map fun cdv A outer s H E hr =>
    (mss_cons (ms_set sc__law_any_map.nd rfl (by first | exact .inl rfl | exact .inr rfl) (me_op (om_add false) me_int (me_call h__law_pick (hr.mono (by decide)) (by rfl) (ma_cons (mv 0) (ma_cons (mv 1) ma_nil)))))
    (mss_cons (ms_set sc__law_any_map.nd rfl (by first | exact .inl rfl | exact .inr rfl) (me_call h__law_pick (hr.mono (by decide)) (by rfl) (ma_cons (mv 0) (ma_cons (me_op (om_add false) (mv 2) me_int) ma_nil))))
    (mss_cons (ms_if (mt_cmp om_gt (mv 3) me_int (nomark _)) (mss_one (ms_set sc__law_any_map.nd rfl (by first | exact .inl rfl | exact .inr rfl) (me_callB (cm_max2 rfl) T.b_max (by rfl) boot_max (ma_cons me_int (ma_cons (mv 4) ma_nil))))) mss_nil)
    (mss_cons (ms_set sc__law_any_map.nd rfl (by first | exact .inl rfl | exact .inr rfl) (me_lc false [("_law_spot", 8)] rfl sc__law_any_map.nd (mi_rng1 T.b_range (by rfl) (mv 3)) (blkOk_by (by kernel_rfl)) (fun _ _ _ _ _ => (mg_name (by decide) sc__law_any_map.nd rfl (by first | exact .inl rfl | exact .inr rfl))) (fun _ _ _ _ _ => mts_nil) (fun _ _ _ _ _ => (me_op (om_repL true) (me_lst false (ma_cons me_non ma_nil)) (mv 4)))))
    (mss_cons (ms_for (vs := [6]) PassesOwn.never rfl (mi_rng2 T.b_range (by rfl) me_int (mv 3)) (mg_name (by decide) sc__law_any_map.nd rfl (by first | exact .inl rfl | exact .inr rfl)) (mss_cons (ms_set sc__law_any_map.nd rfl (by first | exact .inl rfl | exact .inr rfl) (me_lst true ma_nil))
    (mss_cons (ms_for (vs := [8]) PassesOwn.never rfl (mi_rng1 T.b_range (by rfl) (mv 6)) (mg_name (by decide) sc__law_any_map.nd rfl (by first | exact .inl rfl | exact .inr rfl)) (mss_one (ms_expr (me_bm PySem.F.plainAttrs_list PySem.F.slot_list_extend PySem.F.type_list_extend mm_extend (mv 10) (ma_cons (me_lc false [("_law_k", 9)] rfl sc__law_any_map.nd (mi_rng1 T.b_range (by rfl) (mv 4)) (blkOk_by (by kernel_rfl)) (fun _ _ _ _ _ => (mg_name (by decide) sc__law_any_map.nd rfl (by first | exact .inl rfl | exact .inr rfl))) (fun _ _ _ _ _ => (mts_one (mt_cmp om_is (me_ix im_ix (me_ix im_ix (mv 5) (mv 8) (fun _ _ => rfl)) (mv 9) (fun _ _ => rfl)) me_non (nomark _)))) (fun _ _ _ _ _ => (me_tup (ma_cons (mv 8) (ma_cons (mv 9) ma_nil))))) ma_nil)))))
    (mss_cons (ms_asg (vs := [8, 9]) (me_ix im_ix (mv 10) (me_call h__law_pick (hr.mono (by decide)) (by rfl) (ma_cons (mv 0) (ma_cons (me_callB cm_len T.b_len (by rfl) PySem.boot_len (ma_cons (mv 10) ma_nil)) ma_nil))) (fun _ _ => rfl)) (mg_tup rfl (mgs_cons (mg_name (by decide) sc__law_any_map.nd rfl (by first | exact .inl rfl | exact .inr rfl)) (mgs_cons (mg_name (by decide) sc__law_any_map.nd rfl (by first | exact .inl rfl | exact .inr rfl)) mgs_nil))))
    (mss_one (ms_asg (vs := []) (mv 6) (mg_sub (me_ix im_ix (mv 5) (mv 8) (fun _ _ => rfl)) (mv 9))))))))
    (mss_cons (ms_set sc__law_any_map.nd rfl (by first | exact .inl rfl | exact .inr rfl) (me_op (om_add false) me_int (me_call h__law_pick (hr.mono (by decide)) (by rfl) (ma_cons (mv 0) (ma_cons me_int ma_nil)))))
    (mss_cons (ms_for (vs := [8]) PassesOwn.never rfl (mi_rng1 T.b_range (by rfl) (mv 3)) (mg_name (by decide) sc__law_any_map.nd rfl (by first | exact .inl rfl | exact .inr rfl)) (mss_one (ms_for (vs := [9]) PassesOwn.never rfl (mi_rng1 T.b_range (by rfl) (mv 4)) (mg_name (by decide) sc__law_any_map.nd rfl (by first | exact .inl rfl | exact .inr rfl)) (mss_one (ms_if (mw_and (mt_cmp om_is (me_ix im_ix (me_ix im_ix (mv 5) (mv 8) (fun _ _ => rfl)) (mv 9) (fun _ _ => rfl)) me_non (nomark _)) (mw_and1 (mt_cmp (om_eq hr.units) (me_call h__law_pick (hr.mono (by decide)) (by rfl) (ma_cons (mv 0) (ma_cons (mv 7) ma_nil))) me_int (nomark _)))).pt (mss_one (ms_asg (vs := []) (me_call h__law_pick (hr.mono (by decide)) (by rfl) (ma_cons (mv 0) (ma_cons (mv 3) ma_nil))) (mg_sub (me_ix im_ix (mv 5) (mv 8) (fun _ _ => rfl)) (mv 9)))) mss_nil)))))
    (mss_cons (ms_for (vs := [9]) PassesOwn.never rfl (mi_rng1 T.b_range (by rfl) (mv 4)) (mg_name (by decide) sc__law_any_map.nd rfl (by first | exact .inl rfl | exact .inr rfl)) (mss_one (ms_if (mt_tru (me_callB (cm_all rfl) T.b_all (by rfl) boot_all (ma_cons (me_lc false [("_law_names_here", 11)] rfl sc__law_any_map.nd (mi_it (mv 5)) (blkOk_by (by kernel_rfl)) (fun _ _ _ _ _ => (mg_name (by decide) sc__law_any_map.nd rfl (by first | exact .inl rfl | exact .inr rfl))) (fun _ _ _ _ _ => mts_nil) (fun _ _ _ _ _ => (me_cmp om_is (me_ix im_ix (mv 11) (mv 9) (fun _ _ => rfl)) me_non (nomark _)))) ma_nil))) (mss_one (ms_asg (vs := []) (me_call h__law_pick (hr.mono (by decide)) (by rfl) (ma_cons (mv 0) (ma_cons (mv 3) ma_nil))) (mg_sub (me_ix im_ix (mv 5) (me_call h__law_pick (hr.mono (by decide)) (by rfl) (ma_cons (mv 0) (ma_cons (mv 3) ma_nil))) (fun _ _ => rfl)) (mv 9)))) mss_nil)))
    (mss_one (ms_ret (me_call h__law_reordered (hr.mono (by decide)) (by rfl) (ma_cons (mv 0) (ma_cons (me_tup (ma_cons (me_call h__law_names (hr.mono (by decide)) (by rfl) (ma_cons (mv 0) (ma_cons (mv 4) ma_nil))) (ma_cons (me_callTy cm_tuple T.b_tuple (by rfl) boot_tuple (ma_cons (me_lc false [("_law_names_here", 11)] rfl sc__law_any_map.nd (mi_it (mv 5)) (blkOk_by (by kernel_rfl)) (fun _ _ _ _ _ => (mg_name (by decide) sc__law_any_map.nd rfl (by first | exact .inl rfl | exact .inr rfl))) (fun _ _ _ _ _ => mts_nil) (fun _ _ _ _ _ => (me_callTy cm_tuple T.b_tuple (by rfl) boot_tuple (ma_cons (mv 11) ma_nil)))) ma_nil)) ma_nil))) ma_nil)))))))))))))
theorem ok__law_reordered (T : Tx K mg) (h__law_plain_row : FnD P w K mg base 1 "_law_plain_row" ["_law_names_here"] V.m__law_plain_row) (h__law_shuffled : FnD P w K mg base 2 "_law_shuffled" ["_law_flow_here", "_law_some"] m__law_shuffled) {f : Addr} {fd : FuncData} (F : Fun K "_law_reordered" "_law_reordered" st__law_reordered f fd) : FnOk P w K mg base CX0 3 f fd ["_law_flow_here", "_law_plan"] (sp0 K mg V.m__law_reordered) :=
  fn_ok0 F sc__law_reordered fun cdv A outer s H E hr =>
    (mss_cons (ms_set sc__law_reordered.nd rfl (by first | exact .inl rfl | exact .inr rfl) (me_op (om_add false) (me_lst false (ma_cons me_int ma_nil)) (me_call h__law_shuffled (hr.mono (by decide)) (by rfl) (ma_cons (mv 0) (ma_cons (me_listRg2 (al := false) rfl T.b_list (by rfl) T.b_range (by rfl) me_int (me_callB cm_len T.b_len (by rfl) PySem.boot_len (ma_cons (me_ix im_ix (mv 1) me_int (fun _ _ => rfl)) ma_nil))) ma_nil)))))
    (mss_cons (ms_set sc__law_reordered.nd rfl (by first | exact .inl rfl | exact .inr rfl) (me_lst true ma_nil))
    (mss_cons (ms_for (vs := [4]) PassesOwn.never rfl (mi_it (mv 2)) (mg_name (by decide) sc__law_reordered.nd rfl (by first | exact .inl rfl | exact .inr rfl)) (mss_one (ms_expr (me_bm PySem.F.plainAttrs_list PySem.F.slot_list_append PySem.F.type_list_append mm_append (mv 3) (ma_cons (me_callTy cm_tuple T.b_tuple (by rfl) boot_tuple (ma_cons (me_lc false [("_law_to", 5)] rfl sc__law_reordered.nd (mi_it (me_call h__law_plain_row (hr.mono (by decide)) (by rfl) (ma_cons (me_ix im_ix (me_ix im_ix (mv 1) me_int (fun _ _ => rfl)) (mv 4) (fun _ _ => rfl)) ma_nil))) (blkOk_by (by kernel_rfl)) (fun _ _ _ _ _ => (mg_name (by decide) sc__law_reordered.nd rfl (by first | exact .inl rfl | exact .inr rfl))) (fun _ _ _ _ _ => mts_nil) (fun _ _ _ _ _ => (me_ix im_ix (me_lst false (ma_cons me_non (ma_cons (me_bm PySem.F.plainAttrs_list PySem.F.slot_list_index PySem.F.type_list_index (mm_indexL (hu1 hr)) (mv 2) (ma_cons (me_callB (cm_max2 rfl) T.b_max (by rfl) boot_max (ma_cons me_int (ma_cons (mv 5) ma_nil))) ma_nil)) ma_nil))) (me_callTy cm_int T.b_int (by rfl) boot_int (ma_cons (me_cmp om_ge (mv 5) me_int (nomark _)) ma_nil)) (fun _ _ => rfl)))) ma_nil)) ma_nil)))))
    (mss_one (ms_ret (me_tup (ma_cons (me_ix im_ix (mv 1) me_int (fun _ _ => rfl)) (ma_cons (me_callTy cm_tuple T.b_tuple (by rfl) boot_tuple (ma_cons (mv 3) ma_nil)) ma_nil))))))))
theorem ok__law_plain_row (T : Tx K mg) {f : Addr} {fd : FuncData} (F : Fun K "_law_plain_row" "_law_plain_row" st__law_plain_row f fd) : FnOk P w K mg base CX0 1 f fd ["_law_names_here"] (sp0 K mg V.m__law_plain_row) :=
  fn_ok0 F sc__law_plain_row fun cdv A outer s H E hr =>
    (mss_one (ms_ret (me_lc false [("_law_to", 1)] rfl sc__law_plain_row.nd (mi_it (mv 0)) (blkOk_by (by kernel_rfl)) (fun _ _ _ _ _ => (mg_name (by decide) sc__law_plain_row.nd rfl (by first | exact .inl rfl | exact .inr rfl))) (fun _ _ _ _ _ => mts_nil) (fun _ _ _ _ _ => (me_ix im_ix (me_lst false (ma_cons (mv 1) (ma_cons (me_un um_neg me_int) ma_nil))) (me_callTy cm_int T.b_int (by rfl) boot_int (ma_cons (me_cmp om_is (mv 1) me_non (nomark _)) ma_nil)) (fun _ _ => rfl))))))
theorem ok__law_is_there (T : Tx K mg) {f : Addr} {fd : FuncData} (F : Fun K "_law_is_there" "_law_is_there" st__law_is_there f fd) : FnOk P w K mg base CX0 1 f fd ["_law_heaps", "_law_stand", "_law_k"] (sp0 K mg m__law_is_there) :=
  fn_ok0 F sc__law_is_there fun cdv A outer s H E hr =>
    (mss_one (ms_ret (me_callB (cm_all rfl) T.b_all (by rfl) boot_all (ma_cons (me_lc false [("_law_heap_here", 3), ("_law_count", 4)] rfl sc__law_is_there.nd (mi_zip T.b_zip (by rfl) (mv 0) (mv 1)) (blkOk_by (by kernel_rfl)) (fun _ _ _ _ _ => (mg_tupW rfl (mgs_cons (mg_name (by decide) sc__law_is_there.nd rfl (by first | exact .inl rfl | exact .inr rfl)) (mgs_cons (mg_name (by decide) sc__law_is_there.nd rfl (by first | exact .inl rfl | exact .inr rfl)) mgs_nil)))) (fun _ _ _ _ _ => mts_nil) (fun _ _ _ _ _ => (me_cmp om_ge (mv 4) (me_ix im_ix (me_ix im_ix (mv 3) me_int (fun _ _ => rfl)) (mv 2) (fun _ _ => rfl)) (nomark _)))) ma_nil))))
theorem ok__law_led (T : Tx K mg) {f : Addr} {fd : FuncData} (F : Fun K "_law_led" "_law_led" st__law_led f fd) : FnOk P w K mg base CX0 1 f fd ["_law_heaps", "_law_stand", "_law_k"] (sp0 K mg m__law_led) :=
  fn_ok0 F sc__law_led fun cdv A outer s H E hr =>
    (mss_one (ms_ret (me_callTy cm_tuple T.b_tuple (by rfl) boot_tuple (ma_cons (me_lc false [("_law_heap_here", 3), ("_law_count", 4)] rfl sc__law_led.nd (mi_zip T.b_zip (by rfl) (mv 0) (mv 1)) (blkOk_by (by kernel_rfl)) (fun _ _ _ _ _ => (mg_tupW rfl (mgs_cons (mg_name (by decide) sc__law_led.nd rfl (by first | exact .inl rfl | exact .inr rfl)) (mgs_cons (mg_name (by decide) sc__law_led.nd rfl (by first | exact .inl rfl | exact .inr rfl)) mgs_nil)))) (fun _ _ _ _ _ => mts_nil) (fun _ _ _ _ _ => (me_op (om_add false) (me_op om_sub (mv 4) (me_ix im_ix (me_ix im_ix (mv 3) me_int (fun _ _ => rfl)) (mv 2) (fun _ _ => rfl))) (me_ix im_ix (me_ix im_ix (mv 3) me_int (fun _ _ => rfl)) (mv 2) (fun _ _ => rfl))))) ma_nil))))
theorem ok__law_walked (T : Tx K mg) (h__law_is_there : FnD P w K mg base 1 "_law_is_there" ["_law_heaps", "_law_stand", "_law_k"] m__law_is_there) (h__law_led : FnD P w K mg base 1 "_law_led" ["_law_heaps", "_law_stand", "_law_k"] m__law_led) {f : Addr} {fd : FuncData} (F : Fun K "_law_walked" "_law_walked" st__law_walked f fd) : FnOk P w K mg base CX0 2 f fd ["_law_yard", "_law_most"] (sp0 K mg V.m__law_walked) :=
  fn_ok0 F sc__law_walked fun cdv A outer s H E hr =>
    (mss_cons (ms_asg (vs := [4, 5]) (mv 0) (mg_tup rfl (mgs_cons (mg_name (by decide) sc__law_walked.nd rfl (by first | exact .inl rfl | exact .inr rfl)) (mgs_cons (mg_name (by decide) sc__law_walked.nd rfl (by first | exact .inl rfl | exact .inr rfl)) mgs_nil))))
    (mss_cons (ms_set sc__law_walked.nd rfl (by first | exact .inl rfl | exact .inr rfl) (me_lst true (ma_cons (me_callTy cm_tuple T.b_tuple (by rfl) boot_tuple (ma_cons (me_lc false [("_law_heap_here", 10)] rfl sc__law_walked.nd (mi_it (mv 5)) (blkOk_by (by kernel_rfl)) (fun _ _ _ _ _ => (mg_name (by decide) sc__law_walked.nd rfl (by first | exact .inl rfl | exact .inr rfl))) (fun _ _ _ _ _ => mts_nil) (fun _ _ _ _ _ => (me_ix im_ix (mv 10) me_int (fun _ _ => rfl)))) ma_nil)) ma_nil)))
    (mss_cons (ms_set sc__law_walked.nd rfl (by first | exact .inl rfl | exact .inr rfl) (me_lst true ma_nil))
    (mss_cons (ms_while PassesOwn.never (mt_chain om_lt om_le (me_callB cm_len T.b_len (by rfl) PySem.boot_len (ma_cons (mv 3) ma_nil)) (me_callB cm_len T.b_len (by rfl) PySem.boot_len (ma_cons (mv 2) ma_nil)) (mv 1)) (mss_cons (ms_set sc__law_walked.nd rfl (by first | exact .inl rfl | exact .inr rfl) (me_ix im_ix (mv 2) (me_callB cm_len T.b_len (by rfl) PySem.boot_len (ma_cons (mv 3) ma_nil)) (fun _ _ => rfl)))
    (mss_cons (ms_set sc__law_walked.nd rfl (by first | exact .inl rfl | exact .inr rfl) (me_lst true ma_nil))
    (mss_cons (ms_for (vs := [8]) PassesOwn.never rfl (mi_rng1 T.b_range (by rfl) (me_callB cm_len T.b_len (by rfl) PySem.boot_len (ma_cons (mv 4) ma_nil))) (mg_name (by decide) sc__law_walked.nd rfl (by first | exact .inl rfl | exact .inr rfl)) (mss_cons (ms_expr (me_bm PySem.F.plainAttrs_list PySem.F.slot_list_append PySem.F.type_list_append mm_append (mv 7) (ma_cons me_non ma_nil)))
    (mss_one (ms_if (mt_tru (me_call h__law_is_there (hr.mono (by decide)) (by rfl) (ma_cons (mv 5) (ma_cons (mv 6) (ma_cons (mv 8) ma_nil))))) (mss_cons (ms_set sc__law_walked.nd rfl (by first | exact .inl rfl | exact .inr rfl) (me_call h__law_led (hr.mono (by decide)) (by rfl) (ma_cons (mv 5) (ma_cons (mv 6) (ma_cons (mv 8) ma_nil)))))
    (mss_cons (ms_if (mt_cmp (om_notin (hu1 hr)) (mv 9) (mv 2) rfl) (mss_one (ms_expr (me_bm PySem.F.plainAttrs_list PySem.F.slot_list_append PySem.F.type_list_append mm_append (mv 2) (ma_cons (mv 9) ma_nil)))) mss_nil)
    (mss_one (ms_asg (vs := []) (me_bm PySem.F.plainAttrs_list PySem.F.slot_list_index PySem.F.type_list_index (mm_indexL (hu1 hr)) (mv 2) (ma_cons (mv 9) ma_nil)) (mg_sub (mv 7) (mv 8)))))) mss_nil))))
    (mss_one (ms_expr (me_bm PySem.F.plainAttrs_list PySem.F.slot_list_append PySem.F.type_list_append mm_append (mv 3) (ma_cons (me_callTy cm_tuple T.b_tuple (by rfl) boot_tuple (ma_cons (mv 7) ma_nil)) ma_nil))))))))
    (mss_cons (ms_if (mt_cmp om_gt (me_callB cm_len T.b_len (by rfl) PySem.boot_len (ma_cons (mv 2) ma_nil)) (mv 1) (nomark _)) (mss_one (ms_ret me_non)) mss_nil)
    (mss_one (ms_ret (me_tup (ma_cons (me_callTy cm_tuple T.b_tuple (by rfl) boot_tuple (ma_cons (mv 3) ma_nil)) (ma_cons (mv 2) ma_nil))))))))))
theorem ok__law_heap (T : Tx K mg) (h__law_pick : FnD P w K mg base 1 "_law_pick" ["_law_flow_here", "_law_many"] m__law_pick) {f : Addr} {fd : FuncData} (F : Fun K "_law_heap" "_law_heap" st__law_heap f fd) : FnOk P w K mg base CX0 2 f fd ["_law_flow_here", "_law_deeds", "_law_most"] (sp0 K mg m__law_heap) :=
  fn_ok0 F sc__law_heap fun cdv A outer s H E hr =>
    (mss_cons (ms_set sc__law_heap.nd rfl (by first | exact .inl rfl | exact .inr rfl) (me_callTy cm_tuple T.b_tuple (by rfl) boot_tuple (ma_cons (me_lc false [("_law_k", 5)] rfl sc__law_heap.nd (mi_rng1 T.b_range (by rfl) (mv 1)) (blkOk_by (by kernel_rfl)) (fun _ _ _ _ _ => (mg_name (by decide) sc__law_heap.nd rfl (by first | exact .inl rfl | exact .inr rfl))) (fun _ _ _ _ _ => mts_nil) (fun _ _ _ _ _ => (me_callB (cm_max2 rfl) T.b_max (by rfl) boot_max (ma_cons me_int (ma_cons (me_op om_sub (me_call h__law_pick (hr.mono (by decide)) (by rfl) (ma_cons (mv 0) (ma_cons (me_op (om_add false) (mv 2) me_int) ma_nil))) me_int) ma_nil))))) ma_nil)))
    (mss_cons (ms_set sc__law_heap.nd rfl (by first | exact .inl rfl | exact .inr rfl) (me_callTy cm_tuple T.b_tuple (by rfl) boot_tuple (ma_cons (me_lc false [("_law_k", 5)] rfl sc__law_heap.nd (mi_rng1 T.b_range (by rfl) (mv 1)) (blkOk_by (by kernel_rfl)) (fun _ _ _ _ _ => (mg_name (by decide) sc__law_heap.nd rfl (by first | exact .inl rfl | exact .inr rfl))) (fun _ _ _ _ _ => mts_nil) (fun _ _ _ _ _ => (me_callB (cm_max2 rfl) T.b_max (by rfl) boot_max (ma_cons me_int (ma_cons (me_op om_sub (me_call h__law_pick (hr.mono (by decide)) (by rfl) (ma_cons (mv 0) (ma_cons (me_op (om_add false) (mv 2) me_int) ma_nil))) me_int) ma_nil))))) ma_nil)))
    (mss_one (ms_ret (me_tup (ma_cons (me_call h__law_pick (hr.mono (by decide)) (by rfl) (ma_cons (mv 0) (ma_cons (me_op (om_add false) (mv 2) me_int) ma_nil))) (ma_cons (mv 3) (ma_cons (mv 4) ma_nil))))))))
theorem ok__law_fuel (T : Tx K mg) (h__law_pick : FnD P w K mg base 1 "_law_pick" ["_law_flow_here", "_law_many"] m__law_pick) {f : Addr} {fd : FuncData} (F : Fun K "_law_fuel" "_law_fuel" st__law_fuel f fd) : FnOk P w K mg base CX0 2 f fd ["_law_flow_here", "_law_deeds"] (sp0 K mg V.m__law_fuel) :=
  fn_ok0 F sc__law_fuel fun cdv A outer s H E hr =>
    (mss_cons (ms_set sc__law_fuel.nd rfl (by first | exact .inl rfl | exact .inr rfl) (me_callTy cm_tuple T.b_tuple (by rfl) boot_tuple (ma_cons (me_lc false [("_law_k", 3)] rfl sc__law_fuel.nd (mi_rng1 T.b_range (by rfl) (mv 1)) (blkOk_by (by kernel_rfl)) (fun _ _ _ _ _ => (mg_name (by decide) sc__law_fuel.nd rfl (by first | exact .inl rfl | exact .inr rfl))) (fun _ _ _ _ _ => mts_nil) (fun _ _ _ _ _ => me_int)) ma_nil)))
    (mss_one (ms_ret (me_tup (ma_cons (me_op (om_add false) me_int (me_call h__law_pick (hr.mono (by decide)) (by rfl) (ma_cons (mv 0) (ma_cons me_int ma_nil)))) (ma_cons (mv 2) (ma_cons (me_callTy cm_tuple T.b_tuple (by rfl) boot_tuple (ma_cons (me_lc false [("_law_k", 3)] rfl sc__law_fuel.nd (mi_rng1 T.b_range (by rfl) (mv 1)) (blkOk_by (by kernel_rfl)) (fun _ _ _ _ _ => (mg_name (by decide) sc__law_fuel.nd rfl (by first | exact .inl rfl | exact .inr rfl))) (fun _ _ _ _ _ => mts_nil) (fun _ _ _ _ _ => (me_callTy cm_int T.b_int (by rfl) boot_int (ma_cons (me_cmp (om_eq hr.units) (me_call h__law_pick (hr.mono (by decide)) (by rfl) (ma_cons (mv 0) (ma_cons me_int ma_nil))) me_int (nomark _)) ma_nil)))) ma_nil)) ma_nil)))))))
theorem ok__law_ring_heaps (T : Tx K mg) (h__law_pick : FnD P w K mg base 1 "_law_pick" ["_law_flow_here", "_law_many"] m__law_pick) {f : Addr} {fd : FuncData} (F : Fun K "_law_ring_heaps" "_law_ring_heaps" st__law_ring_heaps f fd) : FnOk P w K mg base CX0 2 f fd ["_law_flow_here", "_law_deeds"] (sp0 K mg V.m__law_ring_heaps) :=
  fn_ok0 F sc__law_ring_heaps fun cdv A outer s H E hr =>
    (mss_cons (ms_setLc false [("_law_k", 4)] rfl sc__law_ring_heaps.nd rfl rfl (sw_true rfl rfl rfl (by decide +kernel)) (mi_rng1 T.b_range (by rfl) (mv 1)) (blkOk_by (by kernel_rfl)) (fun _ _ _ _ _ => (mg_name (by decide) sc__law_ring_heaps.nd rfl (by first | exact .inl rfl | exact .inr rfl))) (fun _ _ _ _ _ => mts_nil) (fun _ _ _ _ _ => (me_call h__law_pick (hr.mono (by decide)) (by rfl) (ma_cons (mv 0) (ma_cons me_int ma_nil)))))
    (mss_cons (ms_set sc__law_ring_heaps.nd rfl (by first | exact .inl rfl | exact .inr rfl) (me_tup (ma_cons (me_op (om_add false) me_int (me_call h__law_pick (hr.mono (by decide)) (by rfl) (ma_cons (mv 0) (ma_cons me_int ma_nil)))) (ma_cons (me_callTy cm_tuple T.b_tuple (by rfl) boot_tuple (ma_cons (me_lc false [("_law_w", 5)] rfl sc__law_ring_heaps.nd (mi_it (mv 2)) (blkOk_by (by kernel_rfl)) (fun _ _ _ _ _ => (mg_name (by decide) sc__law_ring_heaps.nd rfl (by first | exact .inl rfl | exact .inr rfl))) (fun _ _ _ _ _ => mts_nil) (fun _ _ _ _ _ => (me_callTy cm_int T.b_int (by rfl) boot_int (ma_cons (me_cmp (om_eq hr.units) (mv 5) me_int (nomark _)) ma_nil)))) ma_nil)) (ma_cons (me_callTy cm_tuple T.b_tuple (by rfl) boot_tuple (ma_cons (me_lc false [("_law_w", 5)] rfl sc__law_ring_heaps.nd (mi_it (mv 2)) (blkOk_by (by kernel_rfl)) (fun _ _ _ _ _ => (mg_name (by decide) sc__law_ring_heaps.nd rfl (by first | exact .inl rfl | exact .inr rfl))) (fun _ _ _ _ _ => mts_nil) (fun _ _ _ _ _ => (me_callTy cm_int T.b_int (by rfl) boot_int (ma_cons (me_cmp (om_eq hr.units) (mv 5) me_int (nomark _)) ma_nil)))) ma_nil)) ma_nil)))))
    (mss_one (ms_ret (me_lst false (ma_cons (mv 3) (ma_cons (me_tup (ma_cons (me_call h__law_pick (hr.mono (by decide)) (by rfl) (ma_cons (mv 0) (ma_cons me_int ma_nil))) (ma_cons (me_ix im_ix (mv 3) me_int (fun _ _ => rfl)) (ma_cons (me_ix im_ix (mv 3) me_int (fun _ _ => rfl)) ma_nil)))) ma_nil)))))))
theorem ok__law_any_yard (T : Tx K mg) (h__law_fuel : FnD P w K mg base 2 "_law_fuel" ["_law_flow_here", "_law_deeds"] V.m__law_fuel) (h__law_heap : FnD P w K mg base 2 "_law_heap" ["_law_flow_here", "_law_deeds", "_law_most"] m__law_heap) (h__law_names : FnD P w K mg base 3 "_law_names" ["_law_flow_here", "_law_many"] V.m__law_names) (h__law_pick : FnD P w K mg base 1 "_law_pick" ["_law_flow_here", "_law_many"] m__law_pick) (h__law_ring_heaps : FnD P w K mg base 2 "_law_ring_heaps" ["_law_flow_here", "_law_deeds"] V.m__law_ring_heaps) (h__law_shuffled : FnD P w K mg base 2 "_law_shuffled" ["_law_flow_here", "_law_some"] m__law_shuffled) {f : Addr} {fd : FuncData} (F : Fun K "_law_any_yard" "_law_any_yard" st__law_any_yard f fd) : FnOk P w K mg base CX0 4 f fd ["_law_flow_here", "_law_most"] (sp0 K mg V.m__law_any_yard) :=
  fn_ok0 F sc__law_any_yard fun cdv A outer s H E hr =>
    (mss_cons (ms_set sc__law_any_yard.nd rfl (by first | exact .inl rfl | exact .inr rfl) (me_op (om_add false) me_int (me_call h__law_pick (hr.mono (by decide)) (by rfl) (ma_cons (mv 0) (ma_cons (mv 1) ma_nil)))))
    (mss_cons (ms_set sc__law_any_yard.nd rfl (by first | exact .inl rfl | exact .inr rfl) (me_lst true ma_nil))
    (mss_cons (ms_for (vs := [4]) PassesOwn.never rfl (mi_rng1 T.b_range (by rfl) (me_call h__law_pick (hr.mono (by decide)) (by rfl) (ma_cons (mv 0) (ma_cons me_int ma_nil)))) (mg_name (by decide) sc__law_any_yard.nd rfl (by first | exact .inl rfl | exact .inr rfl)) (mss_one (ms_expr (me_bm PySem.F.plainAttrs_list PySem.F.slot_list_append PySem.F.type_list_append mm_append (mv 3) (ma_cons (me_call h__law_heap (hr.mono (by decide)) (by rfl) (ma_cons (mv 0) (ma_cons (mv 2) (ma_cons (me_ix im_ix (me_lst false (ma_cons me_int (ma_cons me_int (ma_cons me_int ma_nil)))) (me_call h__law_pick (hr.mono (by decide)) (by rfl) (ma_cons (mv 0) (ma_cons me_int ma_nil))) (fun _ _ => rfl)) ma_nil)))) ma_nil)))))
    (mss_cons (ms_set sc__law_any_yard.nd rfl (by first | exact .inl rfl | exact .inr rfl) (me_call h__law_pick (hr.mono (by decide)) (by rfl) (ma_cons (mv 0) (ma_cons me_int ma_nil))))
    (mss_cons (ms_if (mt_cmp (om_eq hr.units) (mv 5) me_int (nomark _)) (mss_one (ms_expr (me_bm PySem.F.plainAttrs_list PySem.F.slot_list_append PySem.F.type_list_append mm_append (mv 3) (ma_cons (me_call h__law_fuel (hr.mono (by decide)) (by rfl) (ma_cons (mv 0) (ma_cons (mv 2) ma_nil))) ma_nil)))) mss_nil)
    (mss_cons (ms_if (mt_cmp (om_eq hr.units) (mv 5) me_int (nomark _)) (mss_one (ms_set sc__law_any_yard.nd rfl (by first | exact .inl rfl | exact .inr rfl) (me_op (om_add true) (mv 3) (me_call h__law_ring_heaps (hr.mono (by decide)) (by rfl) (ma_cons (mv 0) (ma_cons (mv 2) ma_nil)))))) mss_nil)
    (mss_one (ms_ret (me_tup (ma_cons (me_call h__law_names (hr.mono (by decide)) (by rfl) (ma_cons (mv 0) (ma_cons (mv 2) ma_nil))) (ma_cons (me_callTy cm_tuple T.b_tuple (by rfl) boot_tuple (ma_cons (me_call h__law_shuffled (hr.mono (by decide)) (by rfl) (ma_cons (mv 0) (ma_cons (mv 3) ma_nil))) ma_nil)) ma_nil)))))))))))
theorem ok__law_map_of (T : Tx K mg) (h__law_walked : FnD P w K mg base 2 "_law_walked" ["_law_yard", "_law_most"] V.m__law_walked) {f : Addr} {fd : FuncData} (F : Fun K "_law_map_of" "_law_map_of" st__law_map_of f fd) : FnOk P w K mg base CX0 3 f fd ["_law_yard", "_law_most"] (sp0 K mg V.m__law_map_of) :=
  fn_ok0 F sc__law_map_of fun cdv A outer s H E hr =>
    (mss_cons (ms_set sc__law_map_of.nd rfl (by first | exact .inl rfl | exact .inr rfl) (me_call h__law_walked (hr.mono (by decide)) (by rfl) (ma_cons (mv 0) (ma_cons (mv 1) ma_nil))))
    (mss_cons (ms_if (mt_cmp om_is (mv 2) me_non (nomark _)) (mss_one (ms_ret me_non)) mss_nil)
    (mss_cons (ms_set sc__law_map_of.nd rfl (by first | exact .inl rfl | exact .inr rfl) (me_ix im_ix (mv 2) me_int (fun _ _ => rfl)))
    (mss_cons (ms_set sc__law_map_of.nd rfl (by first | exact .inl rfl | exact .inr rfl) (me_lc false [("_law_k", 5)] rfl sc__law_map_of.nd (mi_rng1 T.b_range (by rfl) (me_callB cm_len T.b_len (by rfl) PySem.boot_len (ma_cons (me_ix im_ix (mv 0) me_int (fun _ _ => rfl)) ma_nil))) (blkOk_by (by kernel_rfl)) (fun _ _ _ _ _ => (mg_name (by decide) sc__law_map_of.nd rfl (by first | exact .inl rfl | exact .inr rfl))) (fun _ _ _ _ _ => (mts_one (mt_tru (me_callB (cm_any rfl) T.b_any (by rfl) boot_any (ma_cons (me_lc false [("_law_names_here", 6)] rfl sc__law_map_of.nd (mi_it (mv 3)) (blkOk_by (by kernel_rfl)) (fun _ _ _ _ _ => (mg_name (by decide) sc__law_map_of.nd rfl (by first | exact .inl rfl | exact .inr rfl))) (fun _ _ _ _ _ => mts_nil) (fun _ _ _ _ _ => (me_cmp om_isnot (me_ix im_ix (mv 6) (mv 5) (fun _ _ => rfl)) me_non (nomark _)))) ma_nil))))) (fun _ _ _ _ _ => (mv 5))))
    (mss_one (ms_ret (me_tup (ma_cons (me_callTy cm_tuple T.b_tuple (by rfl) boot_tuple (ma_cons (me_lc false [("_law_k", 5)] rfl sc__law_map_of.nd (mi_it (mv 4)) (blkOk_by (by kernel_rfl)) (fun _ _ _ _ _ => (mg_name (by decide) sc__law_map_of.nd rfl (by first | exact .inl rfl | exact .inr rfl))) (fun _ _ _ _ _ => mts_nil) (fun _ _ _ _ _ => (me_ix im_ix (me_ix im_ix (mv 0) me_int (fun _ _ => rfl)) (mv 5) (fun _ _ => rfl)))) ma_nil)) (ma_cons (me_callTy cm_tuple T.b_tuple (by rfl) boot_tuple (ma_cons (me_lc false [("_law_names_here", 6)] rfl sc__law_map_of.nd (mi_it (mv 3)) (blkOk_by (by kernel_rfl)) (fun _ _ _ _ _ => (mg_name (by decide) sc__law_map_of.nd rfl (by first | exact .inl rfl | exact .inr rfl))) (fun _ _ _ _ _ => mts_nil) (fun _ _ _ _ _ => (me_callTy cm_tuple T.b_tuple (by rfl) boot_tuple (ma_cons (me_lc false [("_law_k", 5)] rfl sc__law_map_of.nd (mi_it (mv 4)) (blkOk_by (by kernel_rfl)) (fun _ _ _ _ _ => (mg_name (by decide) sc__law_map_of.nd rfl (by first | exact .inl rfl | exact .inr rfl))) (fun _ _ _ _ _ => mts_nil) (fun _ _ _ _ _ => (me_ix im_ix (mv 6) (mv 5) (fun _ _ => rfl)))) ma_nil)))) ma_nil)) ma_nil)))))))))
theorem ok__law_is_map (T : Tx K mg) {f : Addr} {fd : FuncData} (F : Fun K "_law_is_map" "_law_is_map" st__law_is_map f fd) : FnOk P w K mg base CX0 1 f fd ["_law_plan"] (sp0 K mg m__law_is_map) :=
  fn_ok0 F sc__law_is_map fun cdv A outer s H E hr =>
    (mss_cons (ms_set sc__law_is_map.nd rfl (by first | exact .inl rfl | exact .inr rfl) (me_lst true (ma_cons me_int ma_nil)))
    (mss_cons (ms_set sc__law_is_map.nd rfl (by first | exact .inl rfl | exact .inr rfl) me_int)
    (mss_cons (ms_while PassesOwn.never (mt_cmp om_lt (mv 2) (me_callB cm_len T.b_len (by rfl) PySem.boot_len (ma_cons (mv 1) ma_nil)) (nomark _)) (mss_cons (ms_for (vs := [4]) PassesOwn.never rfl (mi_it (me_ix im_ix (me_ix im_ix (mv 0) me_int (fun _ _ => rfl)) (me_ix im_ix (mv 1) (mv 2) (fun _ _ => rfl)) (fun _ _ => rfl))) (mg_name (by decide) sc__law_is_map.nd rfl (by first | exact .inl rfl | exact .inr rfl)) (mss_one (ms_if (mw_and (mt_cmp om_isnot (mv 4) me_non (nomark _)) (mw_and1 (mt_cmp (om_notin (hu1 hr)) (mv 4) (mv 1) rfl))).pt (mss_one (ms_expr (me_bm PySem.F.plainAttrs_list PySem.F.slot_list_append PySem.F.type_list_append mm_append (mv 1) (ma_cons (mv 4) ma_nil)))) mss_nil)))
    (mss_one (ms_set sc__law_is_map.nd rfl (by first | exact .inl rfl | exact .inr rfl) (me_op (om_add false) (mv 2) me_int)))))
    (mss_cons (ms_setLc false [("_law_k", 5)] rfl sc__law_is_map.nd rfl rfl (sw_true rfl rfl rfl (by decide +kernel)) (mi_rng1 T.b_range (by rfl) (me_callB cm_len T.b_len (by rfl) PySem.boot_len (ma_cons (me_ix im_ix (mv 0) me_int (fun _ _ => rfl)) ma_nil))) (blkOk_by (by kernel_rfl)) (fun _ _ _ _ _ => (mg_name (by decide) sc__law_is_map.nd rfl (by first | exact .inl rfl | exact .inr rfl))) (fun _ _ _ _ _ => (mts_one (mt_tru (me_callB (cm_all rfl) T.b_all (by rfl) boot_all (ma_cons (me_lc false [("_law_names_here", 6)] rfl sc__law_is_map.nd (mi_it (me_ix im_ix (mv 0) me_int (fun _ _ => rfl))) (blkOk_by (by kernel_rfl)) (fun _ _ _ _ _ => (mg_name (by decide) sc__law_is_map.nd rfl (by first | exact .inl rfl | exact .inr rfl))) (fun _ _ _ _ _ => mts_nil) (fun _ _ _ _ _ => (me_cmp om_is (me_ix im_ix (mv 6) (mv 5) (fun _ _ => rfl)) me_non (nomark _)))) ma_nil))))) (fun _ _ _ _ _ => (mv 5)))
    (mss_one (ms_ret (me_and (me_cmp (om_eq hr.units) (me_callB cm_len T.b_len (by rfl) PySem.boot_len (ma_cons (mv 1) ma_nil)) (me_callB cm_len T.b_len (by rfl) PySem.boot_len (ma_cons (me_ix im_ix (mv 0) me_int (fun _ _ => rfl)) ma_nil)) (nomark _)) (pe_one (me_cmp (om_eq hr.units) (me_callB cm_len T.b_len (by rfl) PySem.boot_len (ma_cons (mv 3) ma_nil)) me_int (nomark _))))))))))
theorem ok__law_marred (T : Tx K mg) (h__law_is_map : FnD P w K mg base 1 "_law_is_map" ["_law_plan"] m__law_is_map) (h__law_pick : FnD P w K mg base 1 "_law_pick" ["_law_flow_here", "_law_many"] m__law_pick) {f : Addr} {fd : FuncData} (F : Fun K "_law_marred" "_law_marred" st__law_marred f fd) : FnOk P w K mg base CX0 2 f fd ["_law_flow_here", "_law_plan"] (sp0 K mg m__law_marred) :=
  fn_ok0 F sc__law_marred fun cdv A outer s H E hr =>
    (mss_cons (ms_if (mt_cmp (om_eq hr.units) (me_callB cm_len T.b_len (by rfl) PySem.boot_len (ma_cons (me_ix im_ix (mv 1) me_int (fun _ _ => rfl)) ma_nil)) me_int (nomark _)) (mss_one (ms_ret (mv 1))) mss_nil)
    (mss_cons (ms_par rfl sc__law_marred.nd rfl rfl (by decide) rfl rfl (ma_cons (me_call h__law_pick (hr.mono (by decide)) (by rfl) (ma_cons (mv 0) (ma_cons (me_callB cm_len T.b_len (by rfl) PySem.boot_len (ma_cons (me_ix im_ix (mv 1) me_int (fun _ _ => rfl)) ma_nil)) ma_nil))) (ma_cons (me_call h__law_pick (hr.mono (by decide)) (by rfl) (ma_cons (mv 0) (ma_cons (me_callB cm_len T.b_len (by rfl) PySem.boot_len (ma_cons (me_ix im_ix (mv 1) me_int (fun _ _ => rfl)) ma_nil)) ma_nil))) ma_nil)))
    (mss_cons (ms_set sc__law_marred.nd rfl (by first | exact .inl rfl | exact .inr rfl) (me_call h__law_pick (hr.mono (by decide)) (by rfl) (ma_cons (mv 0) (ma_cons (me_op (om_add false) (me_callB cm_len T.b_len (by rfl) PySem.boot_len (ma_cons (me_ix im_ix (mv 1) me_int (fun _ _ => rfl)) ma_nil)) me_int) ma_nil))))
    (mss_cons (ms_set sc__law_marred.nd rfl (by first | exact .inl rfl | exact .inr rfl) (me_callTy (cm_list true) T.b_list (by rfl) boot_list (ma_cons (me_ix im_ix (me_ix im_ix (mv 1) me_int (fun _ _ => rfl)) (mv 5) (fun _ _ => rfl)) ma_nil)))
    (mss_cons (ms_asg (vs := []) (me_ix im_ix (me_lst false (ma_cons (mv 2) (ma_cons me_non ma_nil))) (me_callTy cm_int T.b_int (by rfl) boot_int (ma_cons (me_cmp (om_eq hr.units) (mv 2) (me_callB cm_len T.b_len (by rfl) PySem.boot_len (ma_cons (me_ix im_ix (mv 1) me_int (fun _ _ => rfl)) ma_nil)) (nomark _)) ma_nil)) (fun _ _ => rfl)) (mg_sub (mv 3) (mv 6)))
    (mss_cons (ms_set sc__law_marred.nd rfl (by first | exact .inl rfl | exact .inr rfl) (me_tup (ma_cons (me_ix im_ix (mv 1) me_int (fun _ _ => rfl)) (ma_cons (me_op (om_add false) (me_op (om_add false) (me_sl (sm_sl false) (me_ix im_ix (mv 1) me_int (fun _ _ => rfl)) mo_none (mo_some (mv 5))) (me_tup (ma_cons (me_callTy cm_tuple T.b_tuple (by rfl) boot_tuple (ma_cons (mv 3) ma_nil)) ma_nil))) (me_sl (sm_sl false) (me_ix im_ix (mv 1) me_int (fun _ _ => rfl)) (mo_some (me_op (om_add false) (mv 5) me_int)) mo_none)) ma_nil))))
    (mss_one (ms_ret (me_ix im_ix (me_lst false (ma_cons (mv 1) (ma_cons (mv 4) ma_nil))) (me_callTy cm_int T.b_int (by rfl) boot_int (ma_cons (me_call h__law_is_map (hr.mono (by decide)) (by rfl) (ma_cons (mv 4) ma_nil)) ma_nil)) (fun _ _ => rfl))))))))))
theorem ok__law_map (T : Tx K mg) (h__law_any_map : FnD P w K mg base 4 "_law_any_map" ["_law_flow_here", "_law_most", "_law_deeds"] V.m__law_any_map) (h__law_any_yard : FnD P w K mg base 4 "_law_any_yard" ["_law_flow_here", "_law_most"] V.m__law_any_yard) (h__law_map_of : FnD P w K mg base 3 "_law_map_of" ["_law_yard", "_law_most"] V.m__law_map_of) (h__law_marred : FnD P w K mg base 2 "_law_marred" ["_law_flow_here", "_law_plan"] m__law_marred) (h__law_pick : FnD P w K mg base 1 "_law_pick" ["_law_flow_here", "_law_many"] m__law_pick) (h__law_reordered : FnD P w K mg base 3 "_law_reordered" ["_law_flow_here", "_law_plan"] V.m__law_reordered) {f : Addr} {fd : FuncData} (F : Fun K "_law_map" "_law_map" st__law_map f fd) : FnOk P w K mg base CX0 5 f fd ["_law_flow_here", "_law_most", "_law_deeds"] (sp0 K mg V.m__law_map) :=
  fn_ok0 F sc__law_map fun cdv A outer s H E hr =>
    (mss_cons (ms_set sc__law_map.nd rfl (by first | exact .inl rfl | exact .inr rfl) (me_call h__law_pick (hr.mono (by decide)) (by rfl) (ma_cons (mv 0) (ma_cons me_int ma_nil))))
    (mss_cons (ms_for (vs := [4]) PassesOwn.never rfl (mi_rng1 T.b_range (by rfl) me_int) (mg_name (by decide) sc__law_map.nd rfl (by first | exact .inl rfl | exact .inr rfl)) (mss_cons (ms_set sc__law_map.nd rfl (by first | exact .inl rfl | exact .inr rfl) (me_call h__law_map_of (hr.mono (by decide)) (by rfl) (ma_cons (me_call h__law_any_yard (hr.mono (by decide)) (by rfl) (ma_cons (mv 0) (ma_cons (mv 2) ma_nil))) (ma_cons (mv 1) ma_nil))))
    (mss_one (ms_if (mw_and (mt_cmp om_gt (mv 3) me_int (nomark _)) (mw_and (mt_cmp om_isnot (mv 5) me_non (nomark _)) (mw_and1 (mt_cmp om_gt (me_callB cm_len T.b_len (by rfl) PySem.boot_len (ma_cons (me_ix im_ix (mv 5) me_int (fun _ _ => rfl)) ma_nil)) me_int (nomark _))))).pt (mss_cons (ms_set sc__law_map.nd rfl (by first | exact .inl rfl | exact .inr rfl) (me_call h__law_reordered (hr.mono (by decide)) (by rfl) (ma_cons (mv 0) (ma_cons (mv 5) ma_nil))))
    (mss_one (ms_ret (me_ix im_ix (me_lst false (ma_cons (mv 5) (ma_cons (me_call h__law_marred (hr.mono (by decide)) (by rfl) (ma_cons (mv 0) (ma_cons (mv 5) ma_nil))) ma_nil))) (me_callTy cm_int T.b_int (by rfl) boot_int (ma_cons (me_cmp (om_eq hr.units) (mv 3) me_int (nomark _)) ma_nil)) (fun _ _ => rfl))))) mss_nil))))
    (mss_one (ms_ret (me_call h__law_any_map (hr.mono (by decide)) (by rfl) (ma_cons (mv 0) (ma_cons (mv 1) (ma_cons (mv 2) ma_nil))))))))
theorem ok0__law_alike {f : Addr} {fd : FuncData} (F : Fun K "_law_alike" "_law_alike" st__law_alike f fd) : FnOk P w K mg base CX0 1 f fd ["_law_found", "_law_due_here"] (sp0 K mg (m__law_alike 0)) := fn_ok0 F sc__law_alike fun cdv A outer s H E hr => mss_stk
theorem ok__law_alike (T : Tx K mg) {n : Nat} (h__law_alike : FnD P w K mg base (1 + n) "_law_alike" ["_law_found", "_law_due_here"] (m__law_alike n)) {f : Addr} {fd : FuncData} (F : Fun K "_law_alike" "_law_alike" st__law_alike f fd) : FnOk P w K mg base CX0 (1 + n + 1) f fd ["_law_found", "_law_due_here"] (sp0 K mg (m__law_alike (n + 1))) :=
  fn_ok0 F sc__law_alike fun cdv A outer s H E hr =>
    (mss_cons (ms_if (mt_tru (me_isiT2 "list" "tuple" T.b_isinstance T.b_list T.b_tuple (by rfl) (by rfl) (by rfl) boot_list boot_tuple (mv 1))) (mss_cons (ms_if (mw_or (mt_cmp (om_ne hr.units) (me_isi "list" T.b_isinstance T.b_list (by rfl) (by rfl) boot_list (mv 0)) (me_isi "list" T.b_isinstance T.b_list (by rfl) (by rfl) boot_list (mv 1)) (nomark _)) (mw_or1 (mt_cmp (om_ne hr.units) (me_isi "tuple" T.b_isinstance T.b_tuple (by rfl) (by rfl) boot_tuple (mv 0)) (me_isi "tuple" T.b_isinstance T.b_tuple (by rfl) (by rfl) boot_tuple (mv 1)) (nomark _)))).pt (mss_one (ms_ret me_bl)) mss_nil)
    (mss_cons (ms_if (mt_cmp (om_ne hr.units) (me_callB cm_len T.b_len (by rfl) PySem.boot_len (ma_cons (mv 0) ma_nil)) (me_callB cm_len T.b_len (by rfl) PySem.boot_len (ma_cons (mv 1) ma_nil)) (nomark _)) (mss_one (ms_ret me_bl)) mss_nil)
    (mss_one (ms_ret (me_callB (cm_all rfl) T.b_all (by rfl) boot_all (ma_cons (me_lc false [("_law_one", 2), ("_law_other", 3)] rfl sc__law_alike.nd (mi_zip T.b_zip (by rfl) (mv 0) (mv 1)) (blkOk_by (by kernel_rfl)) (fun _ _ _ _ _ => (mg_tupW rfl (mgs_cons (mg_name (by decide) sc__law_alike.nd rfl (by first | exact .inl rfl | exact .inr rfl)) (mgs_cons (mg_name (by decide) sc__law_alike.nd rfl (by first | exact .inl rfl | exact .inr rfl)) mgs_nil)))) (fun _ _ _ _ _ => mts_nil) (fun _ _ _ _ _ => (me_call h__law_alike (hr.mono (by omega)) (by rfl) (ma_cons (mv 2) (ma_cons (mv 3) ma_nil))))) ma_nil)))))) mss_nil)
    (mss_cons (ms_if (mw_or (mt_tru (me_isi "str" T.b_isinstance T.b_str (by rfl) (by rfl) boot_str (mv 1))) (mw_or1 (mt_cmp om_is (mv 1) me_non (nomark _)))).pt (mss_one (ms_ret (me_and (me_cmp (om_eq hr.units) (me_isi "str" T.b_isinstance T.b_str (by rfl) (by rfl) boot_str (mv 0)) (me_isi "str" T.b_isinstance T.b_str (by rfl) (by rfl) boot_str (mv 1)) (nomark _)) (pe_one (me_cmp (om_eq hr.units) (mv 0) (mv 1) (nomark _)))))) mss_nil)
    (mss_one (ms_ret (me_and (me_isi "int" T.b_isinstance T.b_int (by rfl) (by rfl) boot_int (mv 0)) (me_and (me_cmp (om_eq hr.units) (me_isi "bool" T.b_isinstance T.b_bool (by rfl) (by rfl) boot_bool (mv 0)) (me_isi "bool" T.b_isinstance T.b_bool (by rfl) (by rfl) boot_bool (mv 1)) (nomark _)) (pe_one (me_cmp (om_eq hr.units) (mv 0) (mv 1) (nomark _)))))))))
theorem ok__law_row (T : Tx K mg) (h__law_pick : FnD P w K mg base 1 "_law_pick" ["_law_flow_here", "_law_many"] m__law_pick) (h__law_word : FnD P w K mg base 2 "_law_word" ["_law_flow_here"] m__law_word) {f : Addr} {fd : FuncData} (F : Fun K "_law_row" "_law_row" st__law_row f fd) : FnOk P w K mg base CX0 3 f fd ["_law_flow_here", "_law_plan", "_law_here"] (sp0 K mg m__law_row) :=
  fn_ok0 F sc__law_row fun cdv A outer s H E hr =>
    (mss_cons (ms_set sc__law_row.nd rfl (by first | exact .inl rfl | exact .inr rfl) (me_lst true ma_nil))
    (mss_cons (ms_for (vs := [4]) PassesOwn.never rfl (mi_rng1 T.b_range (by rfl) (me_ix im_ix (me_lst false (ma_cons (me_call h__law_pick (hr.mono (by decide)) (by rfl) (ma_cons (mv 0) (ma_cons me_int ma_nil))) (ma_cons (me_call h__law_pick (hr.mono (by decide)) (by rfl) (ma_cons (mv 0) (ma_cons me_int ma_nil))) ma_nil))) (me_call h__law_pick (hr.mono (by decide)) (by rfl) (ma_cons (mv 0) (ma_cons me_int ma_nil))) (fun _ _ => rfl))) (mg_name (by decide) sc__law_row.nd rfl (by first | exact .inl rfl | exact .inr rfl)) (mss_cons (ms_setLc false [("_law_k", 4)] rfl sc__law_row.nd rfl rfl (sw_true rfl rfl rfl (by decide +kernel)) (mi_rng1 T.b_range (by rfl) (me_callB cm_len T.b_len (by rfl) PySem.boot_len (ma_cons (me_ix im_ix (mv 1) me_int (fun _ _ => rfl)) ma_nil))) (blkOk_by (by kernel_rfl)) (fun _ _ _ _ _ => (mg_name (by decide) sc__law_row.nd rfl (by first | exact .inl rfl | exact .inr rfl))) (fun _ _ _ _ _ => (mts_one (mt_cmp om_isnot (me_ix im_ix (me_ix im_ix (me_ix im_ix (mv 1) me_int (fun _ _ => rfl)) (mv 2) (fun _ _ => rfl)) (mv 4) (fun _ _ => rfl)) me_non (nomark _)))) (fun _ _ _ _ _ => (mv 4)))
    (mss_one (ms_if (mw_or (mt_cmp (om_eq hr.units) (me_call h__law_pick (hr.mono (by decide)) (by rfl) (ma_cons (mv 0) (ma_cons me_int ma_nil))) me_int (nomark _)) (mw_or1 (mt_cmp (om_eq hr.units) (mv 5) (me_lst false ma_nil) (nomark _)))).pt (mss_one (ms_expr (me_bm PySem.F.plainAttrs_list PySem.F.slot_list_append PySem.F.type_list_append mm_append (mv 3) (ma_cons (me_ix im_ix (me_op (om_add false) (me_callTy (cm_list false) T.b_list (by rfl) boot_list (ma_cons (me_ix im_ix (mv 1) me_int (fun _ _ => rfl)) ma_nil)) (me_lst false (ma_cons (me_call h__law_word (hr.mono (by decide)) (by rfl) (ma_cons (mv 0) ma_nil)) ma_nil))) (me_call h__law_pick (hr.mono (by decide)) (by rfl) (ma_cons (mv 0) (ma_cons (me_op (om_add false) (me_callB cm_len T.b_len (by rfl) PySem.boot_len (ma_cons (me_ix im_ix (mv 1) me_int (fun _ _ => rfl)) ma_nil)) me_int) ma_nil))) (fun _ _ => rfl)) ma_nil)))) (mss_cons (ms_set sc__law_row.nd rfl (by first | exact .inl rfl | exact .inr rfl) (me_ix im_ix (mv 5) (me_call h__law_pick (hr.mono (by decide)) (by rfl) (ma_cons (mv 0) (ma_cons (me_callB cm_len T.b_len (by rfl) PySem.boot_len (ma_cons (mv 5) ma_nil)) ma_nil))) (fun _ _ => rfl)))
    (mss_cons (ms_expr (me_bm PySem.F.plainAttrs_list PySem.F.slot_list_append PySem.F.type_list_append mm_append (mv 3) (ma_cons (me_ix im_ix (me_ix im_ix (mv 1) me_int (fun _ _ => rfl)) (mv 4) (fun _ _ => rfl)) ma_nil)))
    (mss_one (ms_set sc__law_row.nd rfl (by first | exact .inl rfl | exact .inr rfl) (me_ix im_ix (me_ix im_ix (me_ix im_ix (mv 1) me_int (fun _ _ => rfl)) (mv 2) (fun _ _ => rfl)) (mv 4) (fun _ _ => rfl))))))))))
    (mss_one (ms_ret (me_callTy cm_tuple T.b_tuple (by rfl) boot_tuple (ma_cons (mv 3) ma_nil))))))
theorem ok__law_due (T : Tx K mg) (h__law_all_ways : FnD P w K mg base 1 "_law_all_ways" ["_law_plan"] m__law_all_ways) {f : Addr} {fd : FuncData} (F : Fun K "_law_due" "_law_due" st__law_due f fd) : FnOk P w K mg base CX0 2 f fd ["_law_plan", "_law_spot", "_law_names_here"] (sp0 K mg (m__law_due (hashStr w))) :=
  fn_ok0 F sc__law_due fun cdv A outer s H E hr =>
    (mss_cons (ms_set sc__law_due.nd rfl (by first | exact .inl rfl | exact .inr rfl) me_xnew)
    (mss_cons (ms_for (vs := [5, 6, 7]) PassesOwn.never rfl (mi_it (me_call h__law_all_ways (hr.mono (by decide)) (by rfl) (ma_cons (mv 0) ma_nil))) (mg_tup rfl (mgs_cons (mg_name (by decide) sc__law_due.nd rfl (by first | exact .inl rfl | exact .inr rfl)) (mgs_cons (mg_name (by decide) sc__law_due.nd rfl (by first | exact .inl rfl | exact .inr rfl)) (mgs_cons (mg_name (by decide) sc__law_due.nd rfl (by first | exact .inl rfl | exact .inr rfl)) mgs_nil)))) (mss_one (ms_xput (hd1 hr) (mv 3) (me_tup (ma_cons (mv 5) (ma_cons (me_ix im_ix (me_ix im_ix (mv 0) me_int (fun _ _ => rfl)) (mv 6) (fun _ _ => rfl)) ma_nil))) (mv 7))))
    (mss_cons (ms_for (vs := [4]) PassesOwn.never rfl (mi_it (mv 2)) (mg_name (by decide) sc__law_due.nd rfl (by first | exact .inl rfl | exact .inr rfl)) (mss_cons (ms_if (mt_cmp (om_xnotin (hd1 hr)) (me_tup (ma_cons (mv 1) (ma_cons (mv 4) ma_nil))) (mv 3) rfl) (mss_one (ms_ret me_non)) mss_nil)
    (mss_one (ms_set sc__law_due.nd rfl (by first | exact .inl rfl | exact .inr rfl) (me_xget (hd1 hr) (mv 3) (me_tup (ma_cons (mv 1) (ma_cons (mv 4) ma_nil))) (fun _ _ => rfl))))))
    (mss_one (ms_ret (mv 1))))))
theorem ok__law_all_ways (T : Tx K mg) {f : Addr} {fd : FuncData} (F : Fun K "_law_all_ways" "_law_all_ways" st__law_all_ways f fd) : FnOk P w K mg base CX0 1 f fd ["_law_plan"] (sp0 K mg m__law_all_ways) :=
  fn_ok0 F sc__law_all_ways fun cdv A outer s H E hr =>
    (mss_cons (ms_set sc__law_all_ways.nd rfl (by first | exact .inl rfl | exact .inr rfl) (me_lst true ma_nil))
    (mss_cons (ms_for (vs := [2]) PassesOwn.never rfl (mi_rng1 T.b_range (by rfl) (me_callB cm_len T.b_len (by rfl) PySem.boot_len (ma_cons (me_ix im_ix (mv 0) me_int (fun _ _ => rfl)) ma_nil))) (mg_name (by decide) sc__law_all_ways.nd rfl (by first | exact .inl rfl | exact .inr rfl)) (mss_one (ms_for (vs := [3]) PassesOwn.never rfl (mi_rng1 T.b_range (by rfl) (me_callB cm_len T.b_len (by rfl) PySem.boot_len (ma_cons (me_ix im_ix (mv 0) me_int (fun _ _ => rfl)) ma_nil))) (mg_name (by decide) sc__law_all_ways.nd rfl (by first | exact .inl rfl | exact .inr rfl)) (mss_one (ms_if (mt_cmp om_isnot (me_ix im_ix (me_ix im_ix (me_ix im_ix (mv 0) me_int (fun _ _ => rfl)) (mv 2) (fun _ _ => rfl)) (mv 3) (fun _ _ => rfl)) me_non (nomark _)) (mss_one (ms_expr (me_bm PySem.F.plainAttrs_list PySem.F.slot_list_append PySem.F.type_list_append mm_append (mv 1) (ma_cons (me_tup (ma_cons (mv 2) (ma_cons (mv 3) (ma_cons (me_ix im_ix (me_ix im_ix (me_ix im_ix (mv 0) me_int (fun _ _ => rfl)) (mv 2) (fun _ _ => rfl)) (mv 3) (fun _ _ => rfl)) ma_nil)))) ma_nil)))) mss_nil)))))
    (mss_one (ms_ret (mv 1)))))
theorem ok__law_right (T : Tx K mg) (h__law_alike : FnD P w K mg base 13 "_law_alike" ["_law_found", "_law_due_here"] (m__law_alike 12)) (h__law_all_ways : FnD P w K mg base 1 "_law_all_ways" ["_law_plan"] m__law_all_ways) (h__law_due : FnD P w K mg base 2 "_law_due" ["_law_plan", "_law_spot", "_law_names_here"] (m__law_due (hashStr w))) (h__law_pick : FnD P w K mg base 1 "_law_pick" ["_law_flow_here", "_law_many"] m__law_pick) (h__law_row : FnD P w K mg base 3 "_law_row" ["_law_flow_here", "_law_plan", "_law_here"] m__law_row) (h_behind : FnD P w K mg base 1 "behind" ["chart", "room", "row"] m_behind) (h_ways_of : FnD P w K mg base 1 "ways_of" ["chart"] m_ways_of) (k_behind_0_row_chart_room : FnK P w K mg base 1 "behind" 0 ["row", "chart", "room"] [1, 2, 0] [] m_behind) (k_ways_of_0_chart : FnK P w K mg base 1 "ways_of" 0 ["chart"] [0] [] m_ways_of) {f : Addr} {fd : FuncData} (F : Fun K "_law_right" "_law_right" st__law_right f fd) : FnOk P w K mg base CX0 14 f fd ["_law_flow_here", "_law_plan"] (sp0 K mg (m__law_right (hashStr w))) :=
  fn_ok0 F sc__law_right fun cdv A outer s H E hr =>
    (mss_cons (ms_for (vs := [2]) PassesOwn.never rfl (mi_rng1 T.b_range (by rfl) me_int) (mg_name (by decide) sc__law_right.nd rfl (by first | exact .inl rfl | exact .inr rfl)) (mss_cons (ms_set sc__law_right.nd rfl (by first | exact .inl rfl | exact .inr rfl) (me_call h__law_pick (hr.mono (by decide)) (by rfl) (ma_cons (mv 0) (ma_cons (me_callB cm_len T.b_len (by rfl) PySem.boot_len (ma_cons (me_ix im_ix (mv 1) me_int (fun _ _ => rfl)) ma_nil)) ma_nil))))
    (mss_cons (ms_set sc__law_right.nd rfl (by first | exact .inl rfl | exact .inr rfl) (me_call h__law_row (hr.mono (by decide)) (by rfl) (ma_cons (mv 0) (ma_cons (mv 1) (ma_cons (mv 4) ma_nil)))))
    (mss_cons (ms_if (mt_not (mt_tru (me_call h__law_alike (hr.mono (by decide)) (by rfl) (ma_cons (me_call h_behind (hr.mono (by decide)) (by rfl) (ma_cons (mv 1) (ma_cons (mv 4) (ma_cons (mv 5) ma_nil)))) (ma_cons (me_call h__law_due (hr.mono (by decide)) (by rfl) (ma_cons (mv 1) (ma_cons (mv 4) (ma_cons (mv 5) ma_nil)))) ma_nil))))) (mss_one (ms_ret me_bl)) mss_nil)
    (mss_one (ms_if (mt_not (mt_tru (me_call h__law_alike (hr.mono (by decide)) (by rfl) (ma_cons (me_callK0 k_behind_0_row_chart_room (hr.mono (by decide)) (by rfl) (mk_cons (mv 5) (mk_cons (mv 1) (mk_cons (mv 4) mk_nil)))) (ma_cons (me_call h__law_due (hr.mono (by decide)) (by rfl) (ma_cons (mv 1) (ma_cons (mv 4) (ma_cons (mv 5) ma_nil)))) ma_nil))))) (mss_one (ms_ret me_bl)) mss_nil))))))
    (mss_cons (ms_set sc__law_right.nd rfl (by first | exact .inl rfl | exact .inr rfl) (me_call h_ways_of (hr.mono (by decide)) (by rfl) (ma_cons (mv 1) ma_nil)))
    (mss_cons (ms_if (mt_not (mt_tru (me_call h__law_alike (hr.mono (by decide)) (by rfl) (ma_cons (mv 3) (ma_cons (me_call h__law_all_ways (hr.mono (by decide)) (by rfl) (ma_cons (mv 1) ma_nil)) ma_nil))))) (mss_one (ms_ret me_bl)) mss_nil)
    (mss_cons (ms_expr (me_bm0 PySem.F.plainAttrs_list PySem.F.slot_list_clear PySem.F.type_list_clear mm_clear (mv 3)))
    (mss_one (ms_ret (me_call h__law_alike (hr.mono (by decide)) (by rfl) (ma_cons (me_callK0 k_ways_of_0_chart (hr.mono (by decide)) (by rfl) (mk_cons (mv 1) mk_nil)) (ma_cons (me_call h__law_all_ways (hr.mono (by decide)) (by rfl) (ma_cons (mv 1) ma_nil)) ma_nil)))))))))
theorem ok_law (T : Tx K mg) (h__law_any_map : FnD P w K mg base 4 "_law_any_map" ["_law_flow_here", "_law_most", "_law_deeds"] V.m__law_any_map) (h__law_flow : FnD P w K mg base 1 "_law_flow" ["_law_script"] m__law_flow) (h__law_map : FnD P w K mg base 5 "_law_map" ["_law_flow_here", "_law_most", "_law_deeds"] V.m__law_map) (h__law_right : FnD P w K mg base 14 "_law_right" ["_law_flow_here", "_law_plan"] (m__law_right (hashStr w))) {f : Addr} {fd : FuncData} (F : Fun K "law" "law" st_law f fd) : FnOk P w K mg base CX0 15 f fd ["_law_script"] (sp0 K mg (m_law (hashStr w))) :=
  fn_ok0 F sc_law fun cdv A outer s H E hr =>
    (mss_cons (ms_set sc_law.nd rfl (by first | exact .inl rfl | exact .inr rfl) (me_call h__law_flow (hr.mono (by decide)) (by rfl) (ma_cons (mv 0) ma_nil)))
    (mss_cons (ms_set sc_law.nd rfl (by first | exact .inl rfl | exact .inr rfl) (me_lst false (ma_cons (me_call h__law_map (hr.mono (by decide)) (by rfl) (ma_cons (mv 1) (ma_cons me_int (ma_cons me_int ma_nil)))) (ma_cons (me_call h__law_any_map (hr.mono (by decide)) (by rfl) (ma_cons (mv 1) (ma_cons me_int (ma_cons me_int ma_nil)))) ma_nil))))
    (mss_one (ms_ret (me_callB (cm_all rfl) T.b_all (by rfl) boot_all (ma_cons (me_lc false [("_law_plan", 3)] rfl sc_law.nd (mi_it (me_op (om_add false) (mv 2) (me_sl (sm_sl false) (mv 2) mo_none (mo_some me_int)))) (blkOk_by (by kernel_rfl)) (fun _ _ _ _ _ => (mg_name (by decide) sc_law.nd rfl (by first | exact .inl rfl | exact .inr rfl))) (fun _ _ _ _ _ => mts_nil) (fun _ _ _ _ _ => (me_call h__law_right (hr.mono (by decide)) (by rfl) (ma_cons (mv 1) (ma_cons (mv 3) ma_nil))))) ma_nil))))))
end
end Lw

namespace Lw
open PySem PySem.Spec PyProof.Rows L2 Mir Mir.Y
open Mir.V (leadC beh beh_cons behind_eq Txs txs_sT)
/-! ### what a dict tells behind a store -/
section
variable {κ : Type} [DecidableEq κ]
theorem valD_cons (p : κ × D) (r : List (κ × D)) (j : κ) : valD (p :: r) j = if p.1 = j then some p.2 else valD r j := by
  unfold valD
  rw [List.find?_cons]
  by_cases h : p.1 = j
  · simp [h]
  · simp [h]
theorem valD_repl (k j : κ) (v : D) : ∀ kvs : List (κ × D), valD (kvs.map fun kv => if kv.1 = k then (kv.1, v) else kv) j = if j = k then (valD kvs j).map (fun _ => v) else valD kvs j
  | [] => by simp [valD]
  | p :: r => by
    rw [List.map_cons, valD_cons, valD_cons, valD_repl k j v r]
    by_cases h1 : p.1 = k
    · by_cases h2 : p.1 = j
      · have h3 : j = k := h2.symm.trans h1
        simp [h1, h3]
      · have h3 : ¬ j = k := fun e => h2 (h1.trans e.symm)
        have h4 : ¬ k = j := fun e => h3 e.symm
        simp [h1, h3, h4]
    · by_cases h2 : p.1 = j
      · have h3 : ¬ j = k := fun e => h1 (h2.trans e)
        simp [h1, h2, h3]
      · simp [h1, h2]
theorem valD_snoc (k j : κ) (v : D) : ∀ kvs : List (κ × D), valD (kvs ++ [(k, v)]) j = (valD kvs j).or (if k = j then some v else none)
  | [] => by
    rw [List.nil_append, valD_cons]
    rfl
  | p :: r => by
    rw [List.cons_append, valD_cons, valD_cons, valD_snoc k j v r]
    by_cases h : p.1 = j
    · simp [h]
    · simp [h]
theorem hasD_val (k : κ) : ∀ kvs : List (κ × D), hasD kvs k = (valD kvs k).isSome
  | [] => rfl
  | p :: r => by
    have ih := hasD_val k r
    unfold hasD at ih ⊢
    rw [List.any_cons, valD_cons, ih]
    by_cases h : p.1 = k
    · simp [h]
    · simp [h]
theorem valD_put (kvs : List (κ × D)) (k j : κ) (v : D) : valD (putD kvs k v) j = if j = k then some v else valD kvs j := by
  unfold putD
  rw [hasD_val]
  by_cases h : (valD kvs k).isSome = true
  · rw [if_pos h, valD_repl]
    by_cases e : j = k
    · subst e
      obtain ⟨d, hd⟩ := Option.isSome_iff_exists.mp h
      simp [hd]
    · simp [e]
  · rw [if_neg h, valD_snoc]
    have hn : valD kvs k = none := by simpa using h
    by_cases e : j = k
    · subst e
      simp [hn]
    · have e' : ¬ k = j := fun q => e q.symm
      simp [e, e']
theorem putD_len (kvs : List (κ × D)) (k : κ) (v : D) : (putD kvs k v).length ≤ kvs.length + 1 := by
  unfold putD
  split <;> simp
end
@[simp] theorem ap_xnew (hs : Str → Int) (η : Env') (m : Mem) : mXNew hs η m = .ok (.ref m.length) (m ++ [.dX hs []]) := nr rfl
@[simp] theorem ap_xput (hs : Str → Int) (co ci cv : EM) (η : Env') (m : Mem) : mXPut hs co ci cv η m = (cv η m).toS fun v m1 => (co η m1).toS fun o m2 => (ci η m2).toS fun i m3 => (xPut hs o i v m3).toS fun _ m4 => .nxt η m4 := nr rfl
section
variable {hs : Str → Int} {m : Mem} {i : Nat} {c : Cha} {P : D → Mem → Prop}
theorem all_ways_then (ok : OkRows c.n.length c.r) (hn : c.r.length ≤ 900) (hd : c.n.length ≤ 900)
    (h : ∀ m' q, Kp m m' → m.length ≤ q → m'[q]? = some (.lst ((wayL c.r).map wD)) → P (.ref q) m') : Tri (m__law_all_ways [chaD c] m) P := by
  refine tri_fn rfl ?_
  have el0 : ∀ m, bLen [sT c.n] m = .ok (.int (c.n.length : Nat)) m := fun m => by unfold sT; simp
  simp [b__law_all_ways]
  have hc1 : (m ++ [Cell.lst []])[m.length]? = some (.lst ((wayL (c.r.take 0)).map wD)) := by simp [wayL]
  have hk1 : Kp m (m ++ [Cell.lst []]) := (Kp.refl m).push _
  generalize m ++ [Cell.lst []] = m1 at hc1 hk1
  simp [b__law_all_ways_s1, gIx_cha1]
  rw [rng_nat (by omega)]
  simp
  obtain ⟨Inv, hInv⟩ : ∃ I : Nat → Env' → Mem → Prop, ∀ k η m', I k η m' ↔ (Kp m m' ∧ m'[m.length]? = some (.lst ((wayL (c.r.take k)).map wD)) ∧ ∃ e2 e3 : Option D, η = [some (chaD c), some (.ref m.length), e2, e3]) := ⟨_, fun _ _ _ => Iff.rfl⟩
  refine for_inv Inv _ ((hInv _ _ _).mpr ⟨hk1, hc1, _, _, rfl⟩) (fun k d η m2 hdt hI => ?_) (fun η m2 hI => ?_)
  · obtain ⟨hk2, hc2, e2, e3, rfl⟩ := (hInv _ _ _).mp hI
    obtain ⟨hkn, rfl⟩ := rng_get hdt
    have hk : k < c.r.length := by omega
    have wid : (rAt c.r k).length = c.n.length := ok.wid _ (rAt_mem hk)
    simp [gIx_cha0, el0]
    rw [rng_nat (by omega)]
    simp
    obtain ⟨In2, hIn2⟩ : ∃ I : Nat → Env' → Mem → Prop, ∀ j η m', I j η m' ↔ (Kp m m' ∧ m'[m.length]? = some (.lst ((wayL (c.r.take k) ++ wayOf k ((rAt c.r k).take j)).map wD)) ∧ ∃ e3 : Option D, η = [some (chaD c), some (.ref m.length), some (.int (k : Nat)), e3]) := ⟨_, fun _ _ _ => Iff.rfl⟩
    refine TriS.toQ (for_inv In2 _ ((hIn2 _ _ _).mpr ⟨hk2, by simpa [wayOf] using hc2, _, rfl⟩) (fun j d η m3 hdt hI => ?_) (fun η m3 hI => ?_))
    · obtain ⟨hk3, hc3, e3, rfl⟩ := (hIn2 _ _ _).mp hI
      obtain ⟨hjn, rfl⟩ := rng_get hdt
      have hj : j < (rAt c.r k).length := by omega
      have ew : wayOf k ((rAt c.r k).take (j + 1)) = wayOf k ((rAt c.r k).take j) ++ ((oAt (rAt c.r k) j).map fun b => (k, j, b)).toList := by
        unfold wayOf
        rw [List.take_add_one, oAt_get hj, Option.toList_some, List.zipIdx_append, List.filterMap_append]
        congr 1
        simp [Nat.min_eq_left (Nat.le_of_lt hj)]
        cases oAt (rAt c.r k) j <;> rfl
      have hlen : ((wayL (c.r.take k) ++ wayOf k ((rAt c.r k).take j)).map wD).length ≤ 900000 := by
        have h1 := wayL_len ok.wid k
        have h2 : (wayOf k ((rAt c.r k).take j)).length ≤ j := by
          unfold wayOf
          refine Nat.le_trans (List.length_filterMap_le _ _) ?_
          simp
          omega
        have h3 : k * c.n.length ≤ 900 * 900 := Nat.mul_le_mul (by omega) hd
        rw [List.length_map, List.length_append]
        omega
      simp [gIx_cha1, gIx_rows hk, gIx_row hj]
      cases ho : oAt (rAt c.r k) j with
      | none =>
        have e0 : oD none = .non := rfl
        rw [ho] at ew
        simp [e0, Mir.isNon]
        exact (hIn2 _ _ _).mpr ⟨hk3, by rw [ew]; simpa using hc3, _, rfl⟩
      | some b =>
        have e0 : oD (some b) = .int (b : Nat) := rfl
        rw [ho] at ew
        simp [e0, Mir.isNon, isTy_ref hc3, gIx_cha1, gIx_rows hk, gIx_row hj, ho]
        rw [append_ref hc3 (by omega)]
        simp
        refine (hIn2 _ _ _).mpr ⟨hk3.put (Nat.le_refl _) _, ?_, _, rfl⟩
        rw [List.getElem?_set_self (List.getElem?_eq_some_iff.mp hc3).1, ew]
        simp [wD]
    · obtain ⟨hk3, hc3, e3, rfl⟩ := (hIn2 _ _ _).mp hI
      refine (hInv _ _ _).mpr ⟨hk3, ?_, _, _, rfl⟩
      rw [hc3, wayL_take (rAt_some hk)]
      congr 3
      rw [rngD_nat, List.length_map, List.length_range, ← wid, List.take_length]
  · obtain ⟨hk2, hc2, e2, e3, rfl⟩ := (hInv _ _ _).mp hI
    simp [b__law_all_ways_s2]
    refine h m2 _ hk2 (Nat.le_refl _) ?_
    rw [hc2, rngD_nat, List.length_map, List.length_range, List.take_length]
def keyW (c : Cha) (v : Nat × Nat × Nat) : List Key := [.inl ((v.1 : Nat) : Int), .inr (nAt c.n v.2.1)]
/-- what the dict of all goals holds -/
structure GoalX (c : Cha) (vs : List (Nat × Nat × Nat)) (kvs : List (List Key × D)) : Prop where
  len : kvs.length ≤ vs.length
  has : ∀ v ∈ vs, valD kvs (keyW c v) = some (.int (v.2.2 : Nat))
  of : ∀ k d, valD kvs k = some d → ∃ v ∈ vs, k = keyW c v ∧ d = .int (v.2.2 : Nat)
theorem keyW_inj {v u : Nat × Nat × Nat} (ok : OkRows c.n.length c.r) (nd : c.n.Nodup) (hv : v ∈ wayL c.r) (hu : u ∈ wayL c.r) (e : keyW c v = keyW c u) : v = u := by
  obtain ⟨a, k, b⟩ := v
  obtain ⟨a', k', b'⟩ := u
  have h1 := wayL_mem.mp hv
  have h2 := wayL_mem.mp hu
  unfold keyW at e
  injection e with e1 e2
  injection e2 with e2 _
  have ea : a = a' := by injection e1 with e1; omega
  have ek : nAt c.n k = nAt c.n k' := by injection e2
  have ek : k = k' := by
    have g1 := nAt_lt (way_wid ok.wid h1).2
    have g2 := nAt_lt (way_wid ok.wid h2).2
    rw [ek, ← g2] at g1
    exact (List.getElem?_inj (way_wid ok.wid h1).2 nd).mp g1
  subst ea ek
  have := way_oAt h1
  rw [way_oAt h2] at this
  rw [Option.some.inj this]
theorem GoalX.put {vs : List (Nat × Nat × Nat)} {kvs : List (List Key × D)} {v : Nat × Nat × Nat} (g : GoalX c vs kvs) (ok : OkRows c.n.length c.r) (nd : c.n.Nodup) (hv : v ∈ wayL c.r) (hvs : ∀ u ∈ vs, u ∈ wayL c.r) : GoalX c (vs ++ [v]) (putD kvs (keyW c v) (.int (v.2.2 : Nat))) := by
  refine ⟨?_, fun u hu => ?_, fun k d h => ?_⟩
  · have := putD_len kvs (keyW c v) (.int (v.2.2 : Nat))
    have := g.len
    simp
    omega
  · rw [valD_put]
    by_cases e : keyW c u = keyW c v
    · have hu' : u ∈ wayL c.r := by
        rcases List.mem_append.mp hu with q | q
        · exact hvs u q
        · rw [List.mem_singleton.mp q]; exact hv
      rw [if_pos e, keyW_inj ok nd hu' hv e]
    · rw [if_neg e]
      rcases List.mem_append.mp hu with q | q
      · exact g.has u q
      · rw [List.mem_singleton.mp q] at e
        exact absurd rfl e
  · rw [valD_put] at h
    by_cases e : k = keyW c v
    · rw [if_pos e] at h
      exact ⟨v, by simp, e, (Option.some.inj h).symm⟩
    · rw [if_neg e] at h
      obtain ⟨u, hu, h1, h2⟩ := g.of k d h
      exact ⟨u, by simp [hu], h1, h2⟩
theorem GoalX.lead {kvs : List (List Key × D)} (g : GoalX c (wayL c.r) kvs) (ok : OkRows c.n.length c.r) (nd : c.n.Nodup) {a : Nat} (ha : a < c.r.length) (x : Str) : valD kvs [.inl ((a : Nat) : Int), .inr x] = (leadC c a x).map fun b => D.int (b : Nat) := by
  unfold leadC
  cases e : valD kvs [.inl ((a : Nat) : Int), .inr x] with
  | some d =>
    obtain ⟨v, hv, h1, rfl⟩ := g.of _ _ e
    obtain ⟨a', k, b⟩ := v
    have hw := wayL_mem.mp hv
    unfold keyW at h1
    injection h1 with e1 e2
    injection e2 with e2 _
    have ea : a = a' := by injection e1 with e1; omega
    have ek : x = nAt c.n k := by injection e2
    subst ea ek
    have hk := nAt_lt (way_wid ok.wid hw).2
    rw [if_pos (List.mem_of_getElem? hk), ixS_get nd hk, way_oAt hw]
    rfl
  | none =>
    by_cases hx : x ∈ c.n
    · rw [if_pos hx]
      cases ho : oAt (rAt c.r a) (ixS c.n x) with
      | none => rfl
      | some b =>
        exfalso
        have hw := oAt_way ha ho
        have := g.has (a, ixS c.n x, b) (wayL_mem.mpr hw)
        unfold keyW at this
        obtain ⟨h1, h2, h3⟩ := ixS_ok hx
        have en : nAt c.n (ixS c.n x) = x := by
          have g1 := nAt_lt h2
          rw [h3] at g1
          exact (Option.some.inj g1).symm
        rw [en, e] at this
        cases this
    · rw [if_neg hx]
      rfl
theorem beh_none {xs : List Str} {x : Str} {a : Nat} (h : leadC c a x = none) : beh c (x :: xs) a = none := by
  rw [beh_cons, h]
  rfl
theorem due_then {a : Nat} {xs : List Str} (ok : OkRows c.n.length c.r) (nd : c.n.Nodup) (hn : c.r.length ≤ 300) (hd : c.n.length ≤ 300) (ha : a < c.r.length)
    (h : ∀ m', Kp m m' → P (oD (beh c xs a)) m') : Tri (m__law_due hs [chaD c, .int (a : Nat), sT xs] m) P := by
  refine tri_fn rfl ?_
  simp [b__law_due]
  have hc1 : (m ++ [Cell.dX hs []])[m.length]? = some (.dX hs []) := by simp
  have hk1 : Kp m (m ++ [Cell.dX hs []]) := (Kp.refl m).push _
  generalize m ++ [Cell.dX hs []] = m1 at hc1 hk1
  have hq1 := (List.getElem?_eq_some_iff.mp hc1).1
  simp [b__law_due_s1]
  refine all_ways_then ok (by omega) (by omega) fun m2 q hk2 hq hm2 => ?_
  have hc2 := hk2.get hc1
  have hk2 := hk1.trans hk2
  have hqm : m.length ≠ q := by omega
  have hwl : (wayL c.r).length ≤ 90000 := by
    have := wayL_len ok.wid c.r.length
    rw [List.take_length] at this
    have h3 : c.r.length * c.n.length ≤ 300 * 300 := Nat.mul_le_mul hn hd
    omega
  simp [srcOf_ref hm2]
  obtain ⟨Inv, hInv⟩ : ∃ I : Nat → Env' → Mem → Prop, ∀ k η m', I k η m' ↔ (Kp m m' ∧ m'[q]? = some (.lst ((wayL c.r).map wD)) ∧ (∃ kvs, m'[m.length]? = some (.dX hs kvs) ∧ GoalX c ((wayL c.r).take k) kvs) ∧ ∃ e5 e6 e7 : Option D, η = [some (chaD c), some (.int (a : Nat)), some (sT xs), some (.ref m.length), none, e5, e6, e7]) := ⟨_, fun _ _ _ => Iff.rfl⟩
  refine loop_src (ds := (wayL c.r).map wD) Inv (by simp) (fun k η m' hk hI => ?_) ((hInv _ _ _).mpr ⟨hk2, hm2, ⟨[], hc2, by simp, by simp, by simp [valD]⟩, _, _, _, rfl⟩) (fun k d η m3 hdd hI => ?_) (fun η m3 hI => ?_)
  · obtain ⟨_, hq, _⟩ := (hInv _ _ _).mp hI
    show (lstC m'[q]?).map (fun ds => ds[k]?) = _
    rw [hq]
    rfl
  · obtain ⟨hk3, hm3, ⟨kvs, hc3, hg⟩, e5, e6, e7, rfl⟩ := (hInv _ _ _).mp hI
    rw [List.getElem?_map] at hdd
    cases hv : (wayL c.r)[k]? with
    | none => rw [hv] at hdd; cases hdd
    | some v =>
    rw [hv] at hdd
    cases hdd
    have hvm := List.mem_of_getElem? hv
    have hw : way c.r v.1 v.2.1 v.2.2 := wayL_mem.mp hvm
    have g1 : ∀ m, gIx (sT c.n) (.int (v.2.1 : Nat)) m = .ok (.str (nAt c.n v.2.1)) m := gIx_sT (nAt_lt (way_wid ok.wid hw).2)
    have hkx : keyX (.tup [.int (v.1 : Nat), .str (nAt c.n v.2.1)]) = some (keyW c v) := rfl
    have hl := hg.len
    rw [List.length_take] at hl
    simp [wD, gIx_cha0, g1, xPut_ref hc3 hkx (show kvs.length ≤ 100000 by omega)]
    have := hg.put ok nd hvm (fun u hu => List.mem_of_mem_take hu)
    refine (hInv _ _ _).mpr ⟨hk3.put (Nat.le_refl _) _, by rw [List.getElem?_set_ne hqm]; exact hm3, ⟨_, List.getElem?_set_self (List.getElem?_eq_some_iff.mp hc3).1, ?_⟩, _, _, _, rfl⟩
    rw [List.take_add_one, hv]
    exact this
  · obtain ⟨hk3, hm3, ⟨kvs, hc3, hg⟩, e5, e6, e7, rfl⟩ := (hInv _ _ _).mp hI
    rw [List.length_map, List.take_length] at hg
    simp [b__law_due_s2, sT]
    rw [show D.tup (xs.map D.str) = sT xs from rfl]
    obtain ⟨In2, hIn2⟩ : ∃ I : Nat → Env' → Mem → Prop, ∀ k η m', I k η m' ↔ (m' = m3 ∧ ∃ (b : Nat) (e4 : Option D), b < c.r.length ∧ beh c xs a = beh c (xs.drop k) b ∧ η = [some (chaD c), some (.int (b : Nat)), some (sT xs), some (.ref m.length), e4, e5, e6, e7]) := ⟨_, fun _ _ _ => Iff.rfl⟩
    refine for_inv In2 _ ((hIn2 _ _ _).mpr ⟨rfl, a, _, ha, by simp, rfl⟩) (fun k d η m4 hdt hI => ?_) (fun η m4 hI => ?_)
    · obtain ⟨rfl, b, e4, hb, hbe, rfl⟩ := (hIn2 _ _ _).mp hI
      rw [List.getElem?_map] at hdt
      cases hx : xs[k]? with
      | none => rw [hx] at hdt; cases hdt
      | some x =>
      rw [hx] at hdt
      cases hdt
      have hkl := (List.getElem?_eq_some_iff.mp hx).1
      have ed : xs.drop k = x :: xs.drop (k + 1) := by
        rw [List.drop_eq_getElem_cons hkl]
        congr 1
        have := List.getElem?_eq_getElem hkl
        rw [hx] at this
        exact (Option.some.inj this).symm
      have hkx : keyX (.tup [.int (b : Nat), .str x]) = some [.inl ((b : Nat) : Int), .inr x] := rfl
      have hv := hg.lead ok nd hb x
      simp [b__law_due_0, gXIn_ref hc3 hkx]
      cases hl : leadC c b x with
      | none =>
        rw [hl] at hv
        have e0 : oD none = .non := rfl
        rw [ed, beh_none hl] at hbe
        rw [hbe, e0] at h
        simp [hv]
        exact h _ hk3
      | some b' =>
        rw [hl] at hv
        simp [hv, b__law_due_0s1, gXGet_ref hc3 hkx hv]
        refine (hIn2 _ _ _).mpr ⟨rfl, b', _, Mir.V.leadC_lt ok.rng hb hl, ?_, rfl⟩
        rw [hbe, ed, beh_cons, hl]
        rfl
    · obtain ⟨rfl, b, e4, hb, hbe, rfl⟩ := (hIn2 _ _ _).mp hI
      rw [List.length_map, List.drop_length] at hbe
      have e0 : oD (some b) = .int (b : Nat) := rfl
      have e1 : beh c [] b = some b := rfl
      rw [hbe, e1, e0] at h
      simp [b__law_due_s3]
      exact h _ hk3
end
end Lw

namespace Lw
open PySem PySem.Spec PyProof.Rows L2 Mir Mir.Y
open Mir.V (leadC beh beh_cons behind_eq Txs txs_sT)
section
variable {hs : Str → Int} {m : Mem} {i : Nat} {c : Cha} {P : D → Mem → Prop}
theorem toP_some {ds : List D} {n : Nat} (h : ∀ x ∈ ds, (toP m n x).isSome = true) : ∃ ps, mapO (toP m n) ds = some ps ∧ ps.length = ds.length := by
  induction ds with
  | nil => exact ⟨[], rfl, rfl⟩
  | cons x ds ih =>
    obtain ⟨ps, h1, h2⟩ := ih fun y hy => h y (List.mem_cons_of_mem _ hy)
    obtain ⟨p, hp⟩ := Option.isSome_iff_exists.mp (h x (by simp))
    refine ⟨p :: ps, ?_, by simp [h2]⟩
    unfold mapO
    rw [hp, h1]
theorem nil_eq {ds : List D} {e : D} {neg : Bool} (he : lstOwn m e = some ds) (h : ∀ x ∈ ds, (toP m 59 x).isSome = true) : gEq neg e (.lst []) m = .ok (.bl (decide (ds.length = 0) ^^ neg)) m := by
  obtain ⟨ps, h1, h2⟩ := toP_some h
  have tp : flatD e = none ∧ toP m 60 e = some (.list ps) := by
    cases e with
    | lst l =>
      cases he
      refine ⟨rfl, ?_⟩
      show (mapO (toP m 59) ds).map _ = _
      rw [h1]; rfl
    | ref i =>
      refine ⟨rfl, ?_⟩
      have he' : lstC m[i]? = some ds := he
      show ((lstC m[i]?).bind fun ds => mapO (toP m 59) ds).map _ = _
      rw [he']
      show (mapO (toP m 59) ds).map _ = _
      rw [h1]; rfl
    | _ => cases he
  have e2 : toP m 60 (.lst []) = some (.list []) := rfl
  unfold gEq
  rw [tp.1]
  simp only
  unfold eqDeep
  rw [tp.2, e2]
  simp only
  have : PyData.eqv (.list ps) (.list []) = decide (ds.length = 0) := by
    rw [← h2]
    cases ps with
    | nil => rfl
    | cons p ps => rfl
  rw [this]
theorem law_row_then {a : Nat} (hf : FlowAt m i) (ok : OkRows c.n.length c.r) (hn : c.r.length ≤ 900) (hd : c.n.length ≤ 900) (ha : a < c.r.length)
    (h : ∀ (xs : List Str) m', Flo m m' i → P (sT xs) m') : Tri (m__law_row [.ref i, chaD c, .int (a : Nat)] m) P := by
  refine tri_fn rfl ?_
  have hil := hf.lt
  have el0 : ∀ m, bLen [sT c.n] m = .ok (.int (c.n.length : Nat)) m := fun m => by unfold sT; simp
  simp [b__law_row]
  have hfl0 : Flo m (m ++ [Cell.lst []]) i := (Flo.refl hf).push _
  have hs0 : (m ++ [Cell.lst []])[m.length]? = some (.lst (([] : List Str).map D.str)) := by simp
  generalize m ++ [Cell.lst []] = m0 at hfl0 hs0
  have hij : m.length ≠ i := by omega
  simp [b__law_row_s1]
  refine pick_then hfl0.at (by omega) (by omega) fun t1 m1 ht1 hfl1 => ?_
  have hc1 := hfl1.get hij hs0
  have hfl1 := hfl0.trans hfl1
  refine pick_then hfl1.at (by omega) (by omega) fun t2 m2 ht2 hfl2 => ?_
  have hc2 := hfl2.get hij hc1
  have hfl2 := hfl1.trans hfl2
  refine pick_then hfl2.at (by omega) (by omega) fun t3 m3 ht3 hfl3 => ?_
  have hc3 := hfl3.get hij hc2
  have hfl3 := hfl2.trans hfl3
  obtain ⟨T, hT, hTl⟩ : ∃ T : Nat, gIx (.lst [.int (t1 : Nat), .int (t2 : Nat)]) (.int (t3 : Nat)) m3 = .ok (.int (T : Nat)) m3 ∧ T ≤ 30 := by
    rcases (by omega : t3 = 0 ∨ t3 = 1) with rfl | rfl
    · exact ⟨t1, rfl, by omega⟩
    · exact ⟨t2, rfl, by omega⟩
  simp [hT]
  rw [rng_nat (by omega)]
  simp
  obtain ⟨Inv, hInv⟩ : ∃ I : Nat → Env' → Mem → Prop, ∀ k η m', I k η m' ↔ (Flo m m' i ∧ ∃ (xs : List Str) (b : Nat) (e4 e5 : Option D), η = [some (.ref i), some (chaD c), some (.int (b : Nat)), some (.ref m.length), e4, e5] ∧ xs.length ≤ k ∧ b < c.r.length ∧ m'[m.length]? = some (.lst (xs.map D.str))) := ⟨_, fun _ _ _ => Iff.rfl⟩
  refine for_inv Inv _ ((hInv _ _ _).mpr ⟨hfl3, [], a, _, _, rfl, by simp, ha, hc3⟩) (fun t d η m4 hdt hI => ?_) (fun η m4 hI => ?_)
  · obtain ⟨hfl4, xs, b, e4, e5, rfl, hxl, hb, hc4⟩ := (hInv _ _ _).mp hI
    have htt := (rng_get hdt).1
    have wid : (rAt c.r b).length = c.n.length := ok.wid _ (rAt_mem hb)
    simp [b__law_row_1, gIx_cha0, el0]
    rw [rng_nat (by omega)]
    simp
    rw [rngD_nat]
    refine tri_filter (fun j : Nat => D.int (j : Nat)) (fun j => D.int (j : Nat)) (fun j => (oAt (rAt c.r b) j).isSome) (List.range c.n.length) (fun j hj => ?_) (by simp; omega) ?_
    · have hj := List.mem_range.mp hj
      refine ⟨_, rfl, ?_, fun _ => by simp [wipeE]⟩
      simp [wipeE, gIx_cha1, gIx_rows hb, gIx_row (show j < (rAt c.r b).length by omega)]
      cases oAt (rAt c.r b) j <;> rfl
    · have hmem : ∀ j ∈ (List.range c.n.length).filter (fun j => (oAt (rAt c.r b) j).isSome), j < c.n.length ∧ ∃ z, way c.r b j z := fun j hj => by
        obtain ⟨h1, h2⟩ := List.mem_filter.mp hj
        refine ⟨List.mem_range.mp h1, ?_⟩
        obtain ⟨z, hz⟩ := Option.isSome_iff_exists.mp h2
        exact ⟨z, oAt_way hb hz⟩
      have hjl : ((List.range c.n.length).filter fun j => (oAt (rAt c.r b) j).isSome).length ≤ c.n.length := by
        refine Nat.le_trans (List.length_filter_le _ _) ?_
        rw [List.length_range]
        omega
      generalize (List.range c.n.length).filter (fun j => (oAt (rAt c.r b) j).isSome) = js at hmem hjl
      have hall : ∀ m, ∀ x ∈ js.map (fun k => D.int (k : Nat)), (toP m 59 x).isSome = true := fun m x hx => by
        obtain ⟨v, _, rfl⟩ := List.mem_map.mp hx
        rfl
      have any : ∀ (m6 : Mem) (e4 : Option D), Flo m m6 i → m6[m.length]? = some (.lst (xs.map D.str)) → TriQ ((mDrop (mBM "list" gAppend (mVar 3) (mCons (mOp gIx (mOp (gAdd false) (mCB (bList false) (mCons (mOp gIx (mVar 1) (mC (.int 0))) mNil)) (mLst false (mCons (mCall m__law_word (mCons (mVar 0) mNil)) mNil))) (mCall m__law_pick (mCons (mVar 0) (mCons (mOp (gAdd false) (mCB bLen (mCons (mOp gIx (mVar 1) (mC (.int 0))) mNil)) (mC (.int 1))) mNil)))) mNil)))
          [some (.ref i), some (chaD c), some (.int (b : Nat)), some (.ref m.length), e4, some (.lst (js.map fun j : Nat => D.int (j : Nat)))] m6) (Inv (t + 1)) (fun _ _ => False) (Inv (t + 1)) P := by
        intro m6 e4 hfl6 hc6
        simp [isTy_ref hc6, gIx_cha0]
        rw [show bList false [sT c.n] m6 = .ok (.lst (c.n.map D.str)) m6 by unfold sT; simp]
        simp
        refine word_then hfl6.at fun x m7 hx hfl7 => ?_
        have hc7 := hfl7.get hij hc6
        have hfl7 := hfl6.trans hfl7
        rw [cat_own (own_lst _ _) (own_lst _ _) (by simp; omega)]
        simp [el0]
        refine pick_then (n := (c.n.length : Int) + 1) hfl7.at (by omega) (by omega) fun z m8 hz hfl8 => ?_
        have hc8 := hfl8.get hij hc7
        have hfl8 := hfl7.trans hfl8
        have hz : z < (c.n ++ [x]).length := by simp; omega
        have gz : gIx (.lst (c.n.map D.str ++ [.str x])) (.int (z : Nat)) m8 = .ok (.str (c.n ++ [x])[z]) m8 := gIx_lst (Mir.Y.atI_nat (by
          have : c.n.map D.str ++ [.str x] = (c.n ++ [x]).map D.str := by simp
          rw [this, List.getElem?_map, List.getElem?_eq_getElem hz]; rfl))
        simp [gz, isTy_ref hc8]
        rw [append_ref hc8 (by simp; omega)]
        simp
        refine (hInv _ _ _).mpr ⟨hfl8.put (Nat.le_refl _) hij _, xs ++ [(c.n ++ [x])[z]], b, _, _, rfl, by simp; omega, hb, ?_⟩
        rw [List.getElem?_set_self (List.getElem?_eq_some_iff.mp hc8).1]
        simp
      simp [b__law_row_1s1]
      refine pick_then hfl4.at (by decide) (by decide) fun p m5 hp hfl5 => ?_
      have hc5 := hfl5.get hij hc4
      have hfl5 := hfl4.trans hfl5
      have any' := any m5 (some d) hfl5 hc5
      by_cases p0 : p = 0
      · simpa [p0] using any'
      · have p0' : ¬ (p : Int) = 0 := by omega
        have en := nil_eq (neg := false) (m := m5) (own_lst _ _) (hall m5)
        rw [List.length_map] at en
        by_cases hz : js.length = 0
        · have hz' : js = [] := List.eq_nil_of_length_eq_zero hz
          subst hz'
          have en' : gEq false (.lst []) (.lst []) m5 = .ok (.bl true) m5 := by simpa using en
          simpa [p0, p0', en'] using any'
        · have hz' : ¬ js = [] := fun e => hz (by rw [e]; rfl)
          simp [p0, p0', en, hz, hz', b__law_row_0]
          refine pick_then (n := (js.length : Int)) hfl5.at (by omega) (by omega) fun z m6 hz6 hfl6 => ?_
          have hc6 := hfl6.get hij hc5
          have hfl6 := hfl5.trans hfl6
          have hzl : z < js.length := by omega
          have gz : gIx (.lst (js.map fun k => D.int (k : Nat))) (.int (z : Nat)) m6 = .ok (.int (js[z] : Nat)) m6 := gIx_lst (Mir.Y.atI_nat (by rw [List.getElem?_map, List.getElem?_eq_getElem hzl]; rfl))
          obtain ⟨hk, y, hw⟩ := hmem _ (List.getElem_mem hzl)
          generalize js[z] = k at gz hk hw
          have g1 : ∀ m, gIx (sT c.n) (.int (k : Nat)) m = .ok (.str (nAt c.n k)) m := gIx_sT (nAt_lt hk)
          have gy : oAt (rAt c.r b) k = some y := way_oAt hw
          have e0 : oD (some y) = .int (y : Nat) := rfl
          simp [gz, b__law_row_0s1, isTy_ref hc6, gIx_cha0, g1]
          rw [append_ref hc6 (by simp; omega)]
          simp [b__law_row_0s2, gIx_cha1, gIx_rows hb, gIx_row (show k < (rAt c.r b).length by omega), gy, e0]
          refine (hInv _ _ _).mpr ⟨hfl6.put (Nat.le_refl _) hij _, xs ++ [nAt c.n k], y, _, _, rfl, by simp; omega, ok.rng _ _ _ hw, ?_⟩
          rw [List.getElem?_set_self (List.getElem?_eq_some_iff.mp hc6).1]
          simp
  · obtain ⟨hfl4, xs, b, e4, e5, rfl, hxl, hb, hc4⟩ := (hInv _ _ _).mp hI
    simp [b__law_row_s2, tuple_ref hc4]
    exact h xs m4 hfl4
theorem nrm_oD {n : Nat} (o : Option Nat) : nrm m (n + 1) (oD o) = some (oD o) := by cases o <;> rfl
theorem nrm_refL {α : Type} {n j : Nat} {f : α → D} {xs : List α} (hj : m[j]? = some (.lst (xs.map f))) (h : ∀ x ∈ xs, nrm m n (f x) = some (f x)) (hl : xs.length ≤ 100000) : nrm m (n + 1) (.ref j) = some (.lst (xs.map f)) := by
  show (match m[j]? with
    | some (.lst ds) => if ds.length ≤ 100000 then (mapO (nrm m n) ds).map D.lst else none
    | _ => none) = _
  rw [hj]
  show (if (xs.map f).length ≤ 100000 then (mapO (nrm m n) (xs.map f)).map D.lst else none) = _
  rw [if_pos (by simpa using hl), nrm_seq h]
  rfl
theorem nrm_ways {q n : Nat} {r : Rows'} (h : m[q]? = some (.lst ((wayL r).map wD))) (hl : (wayL r).length ≤ 100000) : nrm m (n + 3) (.ref q) = some (.lst ((wayL r).map wD)) :=
  nrm_refL h (fun v _ => by
    have e : wD v = iT [(v.1 : Int), (v.2.1 : Int), (v.2.2 : Int)] := rfl
    rw [e]
    exact nrm_iT (n := n) (by simp)) hl
theorem right_then (hf : FlowAt m i) (ok : OkRows c.n.length c.r) (nd : c.n.Nodup) (hn : c.r.length ≤ 300) (hd : c.n.length ≤ 300)
    (h : ∀ m', Flo m m' i → P (.bl true) m') : Tri (m__law_right hs [.ref i, chaD c] m) P := by
  refine tri_fn rfl ?_
  have hwl : (wayL c.r).length ≤ 90000 := by
    have := wayL_len ok.wid c.r.length
    rw [List.take_length] at this
    have h3 : c.r.length * c.n.length ≤ 300 * 300 := Nat.mul_le_mul hn hd
    omega
  simp [b__law_right]
  obtain ⟨Inv, hInv⟩ : ∃ I : Nat → Env' → Mem → Prop, ∀ k η m', I k η m' ↔ (Flo m m' i ∧ ∃ (e2 e4 e5 : Option D), η = [some (.ref i), some (chaD c), e2, none, e4, e5]) := ⟨_, fun _ _ _ => Iff.rfl⟩
  refine for_inv Inv _ ((hInv _ _ _).mpr ⟨Flo.refl hf, _, _, _, rfl⟩) (fun t d η m1 hdt hI => ?_) (fun η m1 hI => ?_)
  · obtain ⟨hfl1, e2, e4, e5, rfl⟩ := (hInv _ _ _).mp hI
    simp [b__law_right_0, gIx_cha1]
    refine pick_then (n := (c.r.length : Int)) hfl1.at (by have := ok.pos; omega) (by omega) fun a m2 ha hfl2 => ?_
    have ha : a < c.r.length := by omega
    have hfl2 := hfl1.trans hfl2
    simp [b__law_right_0s1]
    refine law_row_then hfl2.at ok (by omega) (by omega) ha fun xs m3 hfl3 => ?_
    have hfl3 := hfl2.trans hfl3
    have eb := fun m => behind_eq (m := m) (c := c) ok.wid ok.rng ha (txs_sT (m := m) (xs := xs))
    have ear : ∀ a b c : D, arr [1, 2, 0] [a, b, c] = [b, c, a] := fun _ _ _ => rfl
    simp [b__law_right_0s2, eb]
    refine due_then ok nd hn hd ha fun m4 hk4 => ?_
    have hfl4 := hfl3.kp hk4
    rw [alike_self (n := 12) (nrm_oD (n := 11) (m := m4) (beh c xs a))]
    simp [b__law_right_0s3, ear, eb]
    refine due_then ok nd hn hd ha fun m5 hk5 => ?_
    have hfl5 := hfl4.kp hk5
    rw [alike_self (n := 12) (nrm_oD (n := 11) (m := m5) (beh c xs a))]
    simp
    exact (hInv _ _ _).mpr ⟨hfl5, _, _, _, rfl⟩
  · obtain ⟨hfl1, e2, e4, e5, rfl⟩ := (hInv _ _ _).mp hI
    simp [b__law_right_s1]
    refine ways_of_then ok.wid (by omega) (by omega) fun m2 q hk2 hq hm2 => ?_
    have hfl2 := hfl1.kp hk2
    simp [b__law_right_s2]
    refine all_ways_then ok (by omega) (by omega) fun m3 q3 hk3 hq3 hm3 => ?_
    have hm2 := hk3.get hm2
    have hfl3 := hfl2.kp hk3
    rw [alike_of 12 _ _ _ (nrm_ways (n := 9) hm2 (by omega)) (nrm_ways (n := 9) hm3 (by omega))]
    have hcl : gClear (.ref q) [] m3 = .ok .non (m3.set q (.lst [])) := by
      unfold gClear
      dsimp only
      rw [hm2]
      rfl
    simp [b__law_right_s3, isTy_ref hm2, hcl]
    have hqi : q ≠ i := by
      have := hfl1.at.lt
      omega
    have hfl4 : Flo m (m3.set q (.lst [])) i := hfl3.put (by have := hfl1.2.1; omega) hqi _
    generalize m3.set q (.lst []) = m4 at hfl4
    have ear : ∀ a : D, arr [0] [a] = [a] := fun _ => rfl
    simp [b__law_right_s4, ear]
    refine ways_of_then ok.wid (by omega) (by omega) fun m5 q5 hk5 hq5 hm5 => ?_
    have hfl5 := hfl4.kp hk5
    refine all_ways_then ok (by omega) (by omega) fun m6 q6 hk6 hq6 hm6 => ?_
    have hm5 := hk6.get hm5
    have hfl6 := hfl5.kp hk6
    rw [alike_of 12 _ _ _ (nrm_ways (n := 9) hm5 (by omega)) (nrm_ways (n := 9) hm6 (by omega))]
    simp
    exact h m6 hfl6
end
theorem law_true (hs : Str → Int) (ns : List Int) (hl : ns.length ≤ 63) : ∃ m, m_law hs [.scr (ns.map .int)] [] = .ok (.bl true) m := by
  have key : Tri (m_law hs [.scr (ns.map .int)] []) (fun d m' => d = .bl true) := by
    refine tri_fn rfl ?_
    obtain ⟨m0, e0, hf⟩ := flow_y ns hl
    simp [b_law, e0, b_law_s1]
    refine Mir.V.map_then (most := 8) (deeds := 5) hf (by decide) (by decide) (by decide) (by decide) fun c m1 okc hcn hcr hfl1 => ?_
    refine Mir.V.any_map_then (most := 8) (deeds := 5) hfl1.at (by decide) (by decide) (by decide) (by decide) fun c2 m2 nm2 hcn2 ok2 hcr2 hfl2 => ?_
    have hfl2 := hfl1.trans hfl2
    have hsl : ∀ m, gSl false (.lst [chaD c, chaD c2]) none (some 1) m = .ok (.lst [chaD c]) m := fun m => rfl
    have had : ∀ m, gAdd false (.lst [chaD c, chaD c2]) (.lst [chaD c]) m = .ok (.lst [chaD c, chaD c2, chaD c]) m := fun m => rfl
    simp [b_law_s2, hsl, had]
    refine all_true (fun m' => FlowAt m' 0) chaD [c, c2, c] hfl2.at (fun x hx m8 hk8 => ?_) (by simp) (fun m8 hk8 => rfl)
    have hx : x = c ∨ x = c2 ∨ x = c := by simpa using hx
    have hx : x = c ∨ x = c2 := by rcases hx with h | h | h <;> simp [h]
    simp [wipeE]
    rcases hx with rfl | rfl
    · exact right_then hk8 okc.rows (Nms.nodup okc.nms) (by omega) (by omega) fun m9 hfl9 => by simpa using hfl9.at
    · exact right_then hk8 ok2 (Nms.nodup nm2) (by omega) (by omega) fun m9 hfl9 => by simpa using hfl9.at
  obtain ⟨d, m', e, rfl⟩ := key.ex
  exact ⟨m', e⟩
end Lw

namespace Lw
open PySem PySem.Spec PyProof.Rows L2 Mir Mir.Y
/-! ### what the top has written -/
def spLaw (K : PySem.W.Frag) : Sp := fun vs H Q _ => ∃ (a : Addr) (ns : List Int), vs = [.ref a] ∧ SqL K H a (ns.map V.int) ∧ ns.length ≤ 63 ∧ ∀ H', Q (.bl true) H'
theorem all_mk {l : PySem.W.OpenLaw} {w : World} {K : PySem.W.Frag} {h : Heap} {mg : Str → Option Value} {fa : Addr} (X : K.In h) (G : h.Ns mainGlobals mg) (hfa : mg "law" = some (.ref fa))
    {f0 : Addr} {od0 an0 : Option Addr} {sl0 : Array (Option Value)} {oc0 kV0 dc0 pm0 cd0 ct0 : Value}
    {f1 : Addr} {od1 an1 : Option Addr} {sl1 : Array (Option Value)} {oc1 kV1 dc1 pm1 cd1 ct1 : Value}
    {f2 : Addr} {od2 an2 : Option Addr} {sl2 : Array (Option Value)} {oc2 kV2 dc2 pm2 cd2 ct2 : Value}
    {f3 : Addr} {od3 an3 : Option Addr} {sl3 : Array (Option Value)} {oc3 kV3 dc3 pm3 cd3 ct3 : Value}
    {f4 : Addr} {od4 an4 : Option Addr} {sl4 : Array (Option Value)} {oc4 kV4 dc4 pm4 cd4 ct4 : Value}
    {f5 : Addr} {od5 an5 : Option Addr} {sl5 : Array (Option Value)} {oc5 kV5 dc5 pm5 cd5 ct5 : Value}
    {f6 : Addr} {od6 an6 : Option Addr} {sl6 : Array (Option Value)} {oc6 kV6 dc6 pm6 cd6 ct6 : Value}
    {f7 : Addr} {od7 an7 : Option Addr} {sl7 : Array (Option Value)} {oc7 kV7 dc7 pm7 cd7 ct7 : Value}
    {f8 : Addr} {od8 an8 : Option Addr} {sl8 : Array (Option Value)} {oc8 kV8 dc8 pm8 cd8 ct8 : Value}
    {f9 : Addr} {od9 an9 : Option Addr} {sl9 : Array (Option Value)} {oc9 kV9 dc9 pm9 cd9 ct9 : Value}
    {f10 : Addr} {od10 an10 : Option Addr} {sl10 : Array (Option Value)} {oc10 kV10 dc10 pm10 cd10 ct10 : Value}
    {f11 : Addr} {od11 an11 : Option Addr} {sl11 : Array (Option Value)} {oc11 kV11 dc11 pm11 cd11 ct11 : Value}
    {f12 : Addr} {od12 an12 : Option Addr} {sl12 : Array (Option Value)} {oc12 kV12 dc12 pm12 cd12 ct12 : Value}
    {f13 : Addr} {od13 an13 : Option Addr} {sl13 : Array (Option Value)} {oc13 kV13 dc13 pm13 cd13 ct13 : Value}
    {f14 : Addr} {od14 an14 : Option Addr} {sl14 : Array (Option Value)} {oc14 kV14 dc14 pm14 cd14 ct14 : Value}
    {f15 : Addr} {od15 an15 : Option Addr} {sl15 : Array (Option Value)} {oc15 kV15 dc15 pm15 cd15 ct15 : Value}
    {f16 : Addr} {od16 an16 : Option Addr} {sl16 : Array (Option Value)} {oc16 kV16 dc16 pm16 cd16 ct16 : Value}
    {f17 : Addr} {od17 an17 : Option Addr} {sl17 : Array (Option Value)} {oc17 kV17 dc17 pm17 cd17 ct17 : Value}
    {f18 : Addr} {od18 an18 : Option Addr} {sl18 : Array (Option Value)} {oc18 kV18 dc18 pm18 cd18 ct18 : Value}
    {f19 : Addr} {od19 an19 : Option Addr} {sl19 : Array (Option Value)} {oc19 kV19 dc19 pm19 cd19 ct19 : Value}
    {f20 : Addr} {od20 an20 : Option Addr} {sl20 : Array (Option Value)} {oc20 kV20 dc20 pm20 cd20 ct20 : Value}
    {f21 : Addr} {od21 an21 : Option Addr} {sl21 : Array (Option Value)} {oc21 kV21 dc21 pm21 cd21 ct21 : Value}
    {f22 : Addr} {od22 an22 : Option Addr} {sl22 : Array (Option Value)} {oc22 kV22 dc22 pm22 cd22 ct22 : Value}
    {f23 : Addr} {od23 an23 : Option Addr} {sl23 : Array (Option Value)} {oc23 kV23 dc23 pm23 cd23 ct23 : Value}
    {f24 : Addr} {od24 an24 : Option Addr} {sl24 : Array (Option Value)} {oc24 kV24 dc24 pm24 cd24 ct24 : Value}
    {f25 : Addr} {od25 an25 : Option Addr} {sl25 : Array (Option Value)} {oc25 kV25 dc25 pm25 cd25 ct25 : Value}
    {f26 : Addr} {od26 an26 : Option Addr} {sl26 : Array (Option Value)} {oc26 kV26 dc26 pm26 cd26 ct26 : Value}
    (a0 : PySem.W.nsIn K mainGlobals "behind" = some (some (.ref f0))) (l0 : K.lookup f0 = some ⟨oc0, od0, .func (PySem.W.fnOf "behind" "behind" (defArgs st_behind) (defBody st_behind) (defScope st_behind) .none kV0 dc0 pm0 an0 cd0 ct0), sl0⟩) (c0 : PySem.W.codeIn K cd0 "behind" = true) (k0 : PySem.W.keepIn K (.ref f0) = true)
    (a1 : PySem.W.nsIn K mainGlobals "ways_of" = some (some (.ref f1))) (l1 : K.lookup f1 = some ⟨oc1, od1, .func (PySem.W.fnOf "ways_of" "ways_of" (defArgs st_ways_of) (defBody st_ways_of) (defScope st_ways_of) .none kV1 dc1 pm1 an1 cd1 ct1), sl1⟩) (c1 : PySem.W.codeIn K cd1 "ways_of" = true) (k1 : PySem.W.keepIn K (.ref f1) = true)
    (a2 : PySem.W.nsIn K mainGlobals "_law_flow" = some (some (.ref f2))) (l2 : K.lookup f2 = some ⟨oc2, od2, .func (PySem.W.fnOf "_law_flow" "_law_flow" (defArgs st__law_flow) (defBody st__law_flow) (defScope st__law_flow) .none kV2 dc2 pm2 an2 cd2 ct2), sl2⟩) (c2 : PySem.W.codeIn K cd2 "_law_flow" = true) (k2 : PySem.W.keepIn K (.ref f2) = true)
    (a3 : PySem.W.nsIn K mainGlobals "_law_pick" = some (some (.ref f3))) (l3 : K.lookup f3 = some ⟨oc3, od3, .func (PySem.W.fnOf "_law_pick" "_law_pick" (defArgs st__law_pick) (defBody st__law_pick) (defScope st__law_pick) .none kV3 dc3 pm3 an3 cd3 ct3), sl3⟩) (c3 : PySem.W.codeIn K cd3 "_law_pick" = true) (k3 : PySem.W.keepIn K (.ref f3) = true)
    (a4 : PySem.W.nsIn K mainGlobals "_law_shuffled" = some (some (.ref f4))) (l4 : K.lookup f4 = some ⟨oc4, od4, .func (PySem.W.fnOf "_law_shuffled" "_law_shuffled" (defArgs st__law_shuffled) (defBody st__law_shuffled) (defScope st__law_shuffled) .none kV4 dc4 pm4 an4 cd4 ct4), sl4⟩) (c4 : PySem.W.codeIn K cd4 "_law_shuffled" = true) (k4 : PySem.W.keepIn K (.ref f4) = true)
    (a5 : PySem.W.nsIn K mainGlobals "_law_word" = some (some (.ref f5))) (l5 : K.lookup f5 = some ⟨oc5, od5, .func (PySem.W.fnOf "_law_word" "_law_word" (defArgs st__law_word) (defBody st__law_word) (defScope st__law_word) .none kV5 dc5 pm5 an5 cd5 ct5), sl5⟩) (c5 : PySem.W.codeIn K cd5 "_law_word" = true) (k5 : PySem.W.keepIn K (.ref f5) = true)
    (a6 : PySem.W.nsIn K mainGlobals "_law_names" = some (some (.ref f6))) (l6 : K.lookup f6 = some ⟨oc6, od6, .func (PySem.W.fnOf "_law_names" "_law_names" (defArgs st__law_names) (defBody st__law_names) (defScope st__law_names) .none kV6 dc6 pm6 an6 cd6 ct6), sl6⟩) (c6 : PySem.W.codeIn K cd6 "_law_names" = true) (k6 : PySem.W.keepIn K (.ref f6) = true)
    (a7 : PySem.W.nsIn K mainGlobals "_law_any_map" = some (some (.ref f7))) (l7 : K.lookup f7 = some ⟨oc7, od7, .func (PySem.W.fnOf "_law_any_map" "_law_any_map" (defArgs st__law_any_map) (defBody st__law_any_map) (defScope st__law_any_map) .none kV7 dc7 pm7 an7 cd7 ct7), sl7⟩) (c7 : PySem.W.codeIn K cd7 "_law_any_map" = true) (k7 : PySem.W.keepIn K (.ref f7) = true)
    (a8 : PySem.W.nsIn K mainGlobals "_law_reordered" = some (some (.ref f8))) (l8 : K.lookup f8 = some ⟨oc8, od8, .func (PySem.W.fnOf "_law_reordered" "_law_reordered" (defArgs st__law_reordered) (defBody st__law_reordered) (defScope st__law_reordered) .none kV8 dc8 pm8 an8 cd8 ct8), sl8⟩) (c8 : PySem.W.codeIn K cd8 "_law_reordered" = true) (k8 : PySem.W.keepIn K (.ref f8) = true)
    (a9 : PySem.W.nsIn K mainGlobals "_law_plain_row" = some (some (.ref f9))) (l9 : K.lookup f9 = some ⟨oc9, od9, .func (PySem.W.fnOf "_law_plain_row" "_law_plain_row" (defArgs st__law_plain_row) (defBody st__law_plain_row) (defScope st__law_plain_row) .none kV9 dc9 pm9 an9 cd9 ct9), sl9⟩) (c9 : PySem.W.codeIn K cd9 "_law_plain_row" = true) (k9 : PySem.W.keepIn K (.ref f9) = true)
    (a10 : PySem.W.nsIn K mainGlobals "_law_is_there" = some (some (.ref f10))) (l10 : K.lookup f10 = some ⟨oc10, od10, .func (PySem.W.fnOf "_law_is_there" "_law_is_there" (defArgs st__law_is_there) (defBody st__law_is_there) (defScope st__law_is_there) .none kV10 dc10 pm10 an10 cd10 ct10), sl10⟩) (c10 : PySem.W.codeIn K cd10 "_law_is_there" = true) (k10 : PySem.W.keepIn K (.ref f10) = true)
    (a11 : PySem.W.nsIn K mainGlobals "_law_led" = some (some (.ref f11))) (l11 : K.lookup f11 = some ⟨oc11, od11, .func (PySem.W.fnOf "_law_led" "_law_led" (defArgs st__law_led) (defBody st__law_led) (defScope st__law_led) .none kV11 dc11 pm11 an11 cd11 ct11), sl11⟩) (c11 : PySem.W.codeIn K cd11 "_law_led" = true) (k11 : PySem.W.keepIn K (.ref f11) = true)
    (a12 : PySem.W.nsIn K mainGlobals "_law_walked" = some (some (.ref f12))) (l12 : K.lookup f12 = some ⟨oc12, od12, .func (PySem.W.fnOf "_law_walked" "_law_walked" (defArgs st__law_walked) (defBody st__law_walked) (defScope st__law_walked) .none kV12 dc12 pm12 an12 cd12 ct12), sl12⟩) (c12 : PySem.W.codeIn K cd12 "_law_walked" = true) (k12 : PySem.W.keepIn K (.ref f12) = true)
    (a13 : PySem.W.nsIn K mainGlobals "_law_heap" = some (some (.ref f13))) (l13 : K.lookup f13 = some ⟨oc13, od13, .func (PySem.W.fnOf "_law_heap" "_law_heap" (defArgs st__law_heap) (defBody st__law_heap) (defScope st__law_heap) .none kV13 dc13 pm13 an13 cd13 ct13), sl13⟩) (c13 : PySem.W.codeIn K cd13 "_law_heap" = true) (k13 : PySem.W.keepIn K (.ref f13) = true)
    (a14 : PySem.W.nsIn K mainGlobals "_law_fuel" = some (some (.ref f14))) (l14 : K.lookup f14 = some ⟨oc14, od14, .func (PySem.W.fnOf "_law_fuel" "_law_fuel" (defArgs st__law_fuel) (defBody st__law_fuel) (defScope st__law_fuel) .none kV14 dc14 pm14 an14 cd14 ct14), sl14⟩) (c14 : PySem.W.codeIn K cd14 "_law_fuel" = true) (k14 : PySem.W.keepIn K (.ref f14) = true)
    (a15 : PySem.W.nsIn K mainGlobals "_law_ring_heaps" = some (some (.ref f15))) (l15 : K.lookup f15 = some ⟨oc15, od15, .func (PySem.W.fnOf "_law_ring_heaps" "_law_ring_heaps" (defArgs st__law_ring_heaps) (defBody st__law_ring_heaps) (defScope st__law_ring_heaps) .none kV15 dc15 pm15 an15 cd15 ct15), sl15⟩) (c15 : PySem.W.codeIn K cd15 "_law_ring_heaps" = true) (k15 : PySem.W.keepIn K (.ref f15) = true)
    (a16 : PySem.W.nsIn K mainGlobals "_law_any_yard" = some (some (.ref f16))) (l16 : K.lookup f16 = some ⟨oc16, od16, .func (PySem.W.fnOf "_law_any_yard" "_law_any_yard" (defArgs st__law_any_yard) (defBody st__law_any_yard) (defScope st__law_any_yard) .none kV16 dc16 pm16 an16 cd16 ct16), sl16⟩) (c16 : PySem.W.codeIn K cd16 "_law_any_yard" = true) (k16 : PySem.W.keepIn K (.ref f16) = true)
    (a17 : PySem.W.nsIn K mainGlobals "_law_map_of" = some (some (.ref f17))) (l17 : K.lookup f17 = some ⟨oc17, od17, .func (PySem.W.fnOf "_law_map_of" "_law_map_of" (defArgs st__law_map_of) (defBody st__law_map_of) (defScope st__law_map_of) .none kV17 dc17 pm17 an17 cd17 ct17), sl17⟩) (c17 : PySem.W.codeIn K cd17 "_law_map_of" = true) (k17 : PySem.W.keepIn K (.ref f17) = true)
    (a18 : PySem.W.nsIn K mainGlobals "_law_is_map" = some (some (.ref f18))) (l18 : K.lookup f18 = some ⟨oc18, od18, .func (PySem.W.fnOf "_law_is_map" "_law_is_map" (defArgs st__law_is_map) (defBody st__law_is_map) (defScope st__law_is_map) .none kV18 dc18 pm18 an18 cd18 ct18), sl18⟩) (c18 : PySem.W.codeIn K cd18 "_law_is_map" = true) (k18 : PySem.W.keepIn K (.ref f18) = true)
    (a19 : PySem.W.nsIn K mainGlobals "_law_marred" = some (some (.ref f19))) (l19 : K.lookup f19 = some ⟨oc19, od19, .func (PySem.W.fnOf "_law_marred" "_law_marred" (defArgs st__law_marred) (defBody st__law_marred) (defScope st__law_marred) .none kV19 dc19 pm19 an19 cd19 ct19), sl19⟩) (c19 : PySem.W.codeIn K cd19 "_law_marred" = true) (k19 : PySem.W.keepIn K (.ref f19) = true)
    (a20 : PySem.W.nsIn K mainGlobals "_law_map" = some (some (.ref f20))) (l20 : K.lookup f20 = some ⟨oc20, od20, .func (PySem.W.fnOf "_law_map" "_law_map" (defArgs st__law_map) (defBody st__law_map) (defScope st__law_map) .none kV20 dc20 pm20 an20 cd20 ct20), sl20⟩) (c20 : PySem.W.codeIn K cd20 "_law_map" = true) (k20 : PySem.W.keepIn K (.ref f20) = true)
    (a21 : PySem.W.nsIn K mainGlobals "_law_alike" = some (some (.ref f21))) (l21 : K.lookup f21 = some ⟨oc21, od21, .func (PySem.W.fnOf "_law_alike" "_law_alike" (defArgs st__law_alike) (defBody st__law_alike) (defScope st__law_alike) .none kV21 dc21 pm21 an21 cd21 ct21), sl21⟩) (c21 : PySem.W.codeIn K cd21 "_law_alike" = true) (k21 : PySem.W.keepIn K (.ref f21) = true)
    (a22 : PySem.W.nsIn K mainGlobals "_law_row" = some (some (.ref f22))) (l22 : K.lookup f22 = some ⟨oc22, od22, .func (PySem.W.fnOf "_law_row" "_law_row" (defArgs st__law_row) (defBody st__law_row) (defScope st__law_row) .none kV22 dc22 pm22 an22 cd22 ct22), sl22⟩) (c22 : PySem.W.codeIn K cd22 "_law_row" = true) (k22 : PySem.W.keepIn K (.ref f22) = true)
    (a23 : PySem.W.nsIn K mainGlobals "_law_due" = some (some (.ref f23))) (l23 : K.lookup f23 = some ⟨oc23, od23, .func (PySem.W.fnOf "_law_due" "_law_due" (defArgs st__law_due) (defBody st__law_due) (defScope st__law_due) .none kV23 dc23 pm23 an23 cd23 ct23), sl23⟩) (c23 : PySem.W.codeIn K cd23 "_law_due" = true) (k23 : PySem.W.keepIn K (.ref f23) = true)
    (a24 : PySem.W.nsIn K mainGlobals "_law_all_ways" = some (some (.ref f24))) (l24 : K.lookup f24 = some ⟨oc24, od24, .func (PySem.W.fnOf "_law_all_ways" "_law_all_ways" (defArgs st__law_all_ways) (defBody st__law_all_ways) (defScope st__law_all_ways) .none kV24 dc24 pm24 an24 cd24 ct24), sl24⟩) (c24 : PySem.W.codeIn K cd24 "_law_all_ways" = true) (k24 : PySem.W.keepIn K (.ref f24) = true)
    (a25 : PySem.W.nsIn K mainGlobals "_law_right" = some (some (.ref f25))) (l25 : K.lookup f25 = some ⟨oc25, od25, .func (PySem.W.fnOf "_law_right" "_law_right" (defArgs st__law_right) (defBody st__law_right) (defScope st__law_right) .none kV25 dc25 pm25 an25 cd25 ct25), sl25⟩) (c25 : PySem.W.codeIn K cd25 "_law_right" = true) (k25 : PySem.W.keepIn K (.ref f25) = true)
    (a26 : PySem.W.nsIn K mainGlobals "law" = some (some (.ref f26))) (l26 : K.lookup f26 = some ⟨oc26, od26, .func (PySem.W.fnOf "law" "law" (defArgs st_law) (defBody st_law) (defScope st_law) .none kV26 dc26 pm26 an26 cd26 ct26), sl26⟩) (c26 : PySem.W.codeIn K cd26 "law" = true) (k26 : PySem.W.keepIn K (.ref f26) = true)
    (z_all : PySem.W.nsIn K mainGlobals "all" = some none)
    (z_any : PySem.W.nsIn K mainGlobals "any" = some none)
    (z_bool : PySem.W.nsIn K mainGlobals "bool" = some none)
    (z_enumerate : PySem.W.nsIn K mainGlobals "enumerate" = some none)
    (z_int : PySem.W.nsIn K mainGlobals "int" = some none)
    (z_isinstance : PySem.W.nsIn K mainGlobals "isinstance" = some none)
    (z_len : PySem.W.nsIn K mainGlobals "len" = some none)
    (z_list : PySem.W.nsIn K mainGlobals "list" = some none)
    (z_max : PySem.W.nsIn K mainGlobals "max" = some none)
    (z_range : PySem.W.nsIn K mainGlobals "range" = some none)
    (z_sorted : PySem.W.nsIn K mainGlobals "sorted" = some none)
    (z_str : PySem.W.nsIn K mainGlobals "str" = some none)
    (z_tuple : PySem.W.nsIn K mainGlobals "tuple" = some none)
    (z_zip : PySem.W.nsIn K mainGlobals "zip" = some none) :
    ∃ fd : FuncData, (∀ (s : Shared) (v : Value), BindsTo s fd ⟨[v], []⟩ [("_law_script", v)]) ∧ ∀ base : Heap, K.In base → base.Ns mainGlobals mg → FnOk l.prog w K mg base CX0 15 fa fd ["_law_script"] (spLaw K) := by
  have e := hfa.symm.trans (PySem.W.mg_of X G a26)
  cases e
  have F0 := fun_mk (st := st_behind) l0 c0 k0
  have F1 := fun_mk (st := st_ways_of) l1 c1 k1
  have F2 := fun_mk (st := st__law_flow) l2 c2 k2
  have F3 := fun_mk (st := st__law_pick) l3 c3 k3
  have F4 := fun_mk (st := st__law_shuffled) l4 c4 k4
  have F5 := fun_mk (st := st__law_word) l5 c5 k5
  have F6 := fun_mk (st := st__law_names) l6 c6 k6
  have F7 := fun_mk (st := st__law_any_map) l7 c7 k7
  have F8 := fun_mk (st := st__law_reordered) l8 c8 k8
  have F9 := fun_mk (st := st__law_plain_row) l9 c9 k9
  have F10 := fun_mk (st := st__law_is_there) l10 c10 k10
  have F11 := fun_mk (st := st__law_led) l11 c11 k11
  have F12 := fun_mk (st := st__law_walked) l12 c12 k12
  have F13 := fun_mk (st := st__law_heap) l13 c13 k13
  have F14 := fun_mk (st := st__law_fuel) l14 c14 k14
  have F15 := fun_mk (st := st__law_ring_heaps) l15 c15 k15
  have F16 := fun_mk (st := st__law_any_yard) l16 c16 k16
  have F17 := fun_mk (st := st__law_map_of) l17 c17 k17
  have F18 := fun_mk (st := st__law_is_map) l18 c18 k18
  have F19 := fun_mk (st := st__law_marred) l19 c19 k19
  have F20 := fun_mk (st := st__law_map) l20 c20 k20
  have F21 := fun_mk (st := st__law_alike) l21 c21 k21
  have F22 := fun_mk (st := st__law_row) l22 c22 k22
  have F23 := fun_mk (st := st__law_due) l23 c23 k23
  have F24 := fun_mk (st := st__law_all_ways) l24 c24 k24
  have F25 := fun_mk (st := st__law_right) l25 c25 k25
  have F26 := fun_mk (st := st_law) l26 c26 k26
  have T : Tx K mg := ⟨PySem.W.mg_none_of X G z_all, PySem.W.mg_none_of X G z_any, PySem.W.mg_none_of X G z_bool, PySem.W.mg_none_of X G z_enumerate, PySem.W.mg_none_of X G z_int, PySem.W.mg_none_of X G z_isinstance, PySem.W.mg_none_of X G z_len, PySem.W.mg_none_of X G z_list, PySem.W.mg_none_of X G z_max, PySem.W.mg_none_of X G z_range, PySem.W.mg_none_of X G z_sorted, PySem.W.mg_none_of X G z_str, PySem.W.mg_none_of X G z_tuple, PySem.W.mg_none_of X G z_zip⟩
  refine ⟨PySem.W.fnOf "law" "law" (defArgs st_law) (defBody st_law) (defScope st_law) .none kV26 dc26 pm26 an26 cd26 ct26, fun s v => .of_eq rfl, fun base _ _ => ?_⟩
  have o_behind : FnOk l.prog w K mg base CX0 1 f0 _ ["chart", "room", "row"] (sp0 K mg m_behind) := ok_behind T F0
  have h_behind : FnD l.prog w K mg base 1 "behind" ["chart", "room", "row"] m_behind := ⟨f0, _, PySem.W.mg_of X G a0, k0, F0.binds fun _ _ _ _ _ _ us hl => (match us, hl with | [_, _, _], _ => rfl), o_behind⟩
  have k_behind_0_row_chart_room : FnK l.prog w K mg base 1 "behind" 0 ["row", "chart", "room"] [1, 2, 0] [] m_behind := fnk_of F0 (PySem.W.mg_of X G a0) o_behind fun _ _ _ _ _ _ us ws h1 h2 => (match us, h1, ws, h2 with | [], _, [_, _, _], _ => rfl)
  have o_ways_of : FnOk l.prog w K mg base CX0 1 f1 _ ["chart"] (sp0 K mg m_ways_of) := ok_ways_of T F1
  have h_ways_of : FnD l.prog w K mg base 1 "ways_of" ["chart"] m_ways_of := ⟨f1, _, PySem.W.mg_of X G a1, k1, F1.binds fun _ _ _ _ _ _ us hl => (match us, hl with | [_], _ => rfl), o_ways_of⟩
  have k_ways_of_0_chart : FnK l.prog w K mg base 1 "ways_of" 0 ["chart"] [0] [] m_ways_of := fnk_of F1 (PySem.W.mg_of X G a1) o_ways_of fun _ _ _ _ _ _ us ws h1 h2 => (match us, h1, ws, h2 with | [], _, [_], _ => rfl)
  have o__law_flow : FnOk l.prog w K mg base CX0 1 f2 _ ["_law_script"] (sp0 K mg m__law_flow) := ok__law_flow T F2
  have h__law_flow : FnD l.prog w K mg base 1 "_law_flow" ["_law_script"] m__law_flow := ⟨f2, _, PySem.W.mg_of X G a2, k2, F2.binds fun _ _ _ _ _ _ us hl => (match us, hl with | [_], _ => rfl), o__law_flow⟩
  have o__law_pick : FnOk l.prog w K mg base CX0 1 f3 _ ["_law_flow_here", "_law_many"] (sp0 K mg m__law_pick) := ok__law_pick T F3
  have h__law_pick : FnD l.prog w K mg base 1 "_law_pick" ["_law_flow_here", "_law_many"] m__law_pick := ⟨f3, _, PySem.W.mg_of X G a3, k3, F3.binds fun _ _ _ _ _ _ us hl => (match us, hl with | [_, _], _ => rfl), o__law_pick⟩
  have o__law_plain_row : FnOk l.prog w K mg base CX0 1 f9 _ ["_law_names_here"] (sp0 K mg V.m__law_plain_row) := ok__law_plain_row T F9
  have h__law_plain_row : FnD l.prog w K mg base 1 "_law_plain_row" ["_law_names_here"] V.m__law_plain_row := ⟨f9, _, PySem.W.mg_of X G a9, k9, F9.binds fun _ _ _ _ _ _ us hl => (match us, hl with | [_], _ => rfl), o__law_plain_row⟩
  have o__law_is_there : FnOk l.prog w K mg base CX0 1 f10 _ ["_law_heaps", "_law_stand", "_law_k"] (sp0 K mg m__law_is_there) := ok__law_is_there T F10
  have h__law_is_there : FnD l.prog w K mg base 1 "_law_is_there" ["_law_heaps", "_law_stand", "_law_k"] m__law_is_there := ⟨f10, _, PySem.W.mg_of X G a10, k10, F10.binds fun _ _ _ _ _ _ us hl => (match us, hl with | [_, _, _], _ => rfl), o__law_is_there⟩
  have o__law_led : FnOk l.prog w K mg base CX0 1 f11 _ ["_law_heaps", "_law_stand", "_law_k"] (sp0 K mg m__law_led) := ok__law_led T F11
  have h__law_led : FnD l.prog w K mg base 1 "_law_led" ["_law_heaps", "_law_stand", "_law_k"] m__law_led := ⟨f11, _, PySem.W.mg_of X G a11, k11, F11.binds fun _ _ _ _ _ _ us hl => (match us, hl with | [_, _, _], _ => rfl), o__law_led⟩
  have o__law_is_map : FnOk l.prog w K mg base CX0 1 f18 _ ["_law_plan"] (sp0 K mg m__law_is_map) := ok__law_is_map T F18
  have h__law_is_map : FnD l.prog w K mg base 1 "_law_is_map" ["_law_plan"] m__law_is_map := ⟨f18, _, PySem.W.mg_of X G a18, k18, F18.binds fun _ _ _ _ _ _ us hl => (match us, hl with | [_], _ => rfl), o__law_is_map⟩
  have o__law_all_ways : FnOk l.prog w K mg base CX0 1 f24 _ ["_law_plan"] (sp0 K mg m__law_all_ways) := ok__law_all_ways T F24
  have h__law_all_ways : FnD l.prog w K mg base 1 "_law_all_ways" ["_law_plan"] m__law_all_ways := ⟨f24, _, PySem.W.mg_of X G a24, k24, F24.binds fun _ _ _ _ _ _ us hl => (match us, hl with | [_], _ => rfl), o__law_all_ways⟩
  have o__law_shuffled : FnOk l.prog w K mg base CX0 2 f4 _ ["_law_flow_here", "_law_some"] (sp0 K mg m__law_shuffled) := ok__law_shuffled T h__law_pick F4
  have h__law_shuffled : FnD l.prog w K mg base 2 "_law_shuffled" ["_law_flow_here", "_law_some"] m__law_shuffled := ⟨f4, _, PySem.W.mg_of X G a4, k4, F4.binds fun _ _ _ _ _ _ us hl => (match us, hl with | [_, _], _ => rfl), o__law_shuffled⟩
  have o__law_word : FnOk l.prog w K mg base CX0 2 f5 _ ["_law_flow_here"] (sp0 K mg m__law_word) := ok__law_word T h__law_pick F5
  have h__law_word : FnD l.prog w K mg base 2 "_law_word" ["_law_flow_here"] m__law_word := ⟨f5, _, PySem.W.mg_of X G a5, k5, F5.binds fun _ _ _ _ _ _ us hl => (match us, hl with | [_], _ => rfl), o__law_word⟩
  have o__law_walked : FnOk l.prog w K mg base CX0 2 f12 _ ["_law_yard", "_law_most"] (sp0 K mg V.m__law_walked) := ok__law_walked T h__law_is_there h__law_led F12
  have h__law_walked : FnD l.prog w K mg base 2 "_law_walked" ["_law_yard", "_law_most"] V.m__law_walked := ⟨f12, _, PySem.W.mg_of X G a12, k12, F12.binds fun _ _ _ _ _ _ us hl => (match us, hl with | [_, _], _ => rfl), o__law_walked⟩
  have o__law_heap : FnOk l.prog w K mg base CX0 2 f13 _ ["_law_flow_here", "_law_deeds", "_law_most"] (sp0 K mg m__law_heap) := ok__law_heap T h__law_pick F13
  have h__law_heap : FnD l.prog w K mg base 2 "_law_heap" ["_law_flow_here", "_law_deeds", "_law_most"] m__law_heap := ⟨f13, _, PySem.W.mg_of X G a13, k13, F13.binds fun _ _ _ _ _ _ us hl => (match us, hl with | [_, _, _], _ => rfl), o__law_heap⟩
  have o__law_fuel : FnOk l.prog w K mg base CX0 2 f14 _ ["_law_flow_here", "_law_deeds"] (sp0 K mg V.m__law_fuel) := ok__law_fuel T h__law_pick F14
  have h__law_fuel : FnD l.prog w K mg base 2 "_law_fuel" ["_law_flow_here", "_law_deeds"] V.m__law_fuel := ⟨f14, _, PySem.W.mg_of X G a14, k14, F14.binds fun _ _ _ _ _ _ us hl => (match us, hl with | [_, _], _ => rfl), o__law_fuel⟩
  have o__law_ring_heaps : FnOk l.prog w K mg base CX0 2 f15 _ ["_law_flow_here", "_law_deeds"] (sp0 K mg V.m__law_ring_heaps) := ok__law_ring_heaps T h__law_pick F15
  have h__law_ring_heaps : FnD l.prog w K mg base 2 "_law_ring_heaps" ["_law_flow_here", "_law_deeds"] V.m__law_ring_heaps := ⟨f15, _, PySem.W.mg_of X G a15, k15, F15.binds fun _ _ _ _ _ _ us hl => (match us, hl with | [_, _], _ => rfl), o__law_ring_heaps⟩
  have o__law_marred : FnOk l.prog w K mg base CX0 2 f19 _ ["_law_flow_here", "_law_plan"] (sp0 K mg m__law_marred) := ok__law_marred T h__law_is_map h__law_pick F19
  have h__law_marred : FnD l.prog w K mg base 2 "_law_marred" ["_law_flow_here", "_law_plan"] m__law_marred := ⟨f19, _, PySem.W.mg_of X G a19, k19, F19.binds fun _ _ _ _ _ _ us hl => (match us, hl with | [_, _], _ => rfl), o__law_marred⟩
  have o__law_due : FnOk l.prog w K mg base CX0 2 f23 _ ["_law_plan", "_law_spot", "_law_names_here"] (sp0 K mg (m__law_due (hashStr w))) := ok__law_due T h__law_all_ways F23
  have h__law_due : FnD l.prog w K mg base 2 "_law_due" ["_law_plan", "_law_spot", "_law_names_here"] (m__law_due (hashStr w)) := ⟨f23, _, PySem.W.mg_of X G a23, k23, F23.binds fun _ _ _ _ _ _ us hl => (match us, hl with | [_, _, _], _ => rfl), o__law_due⟩
  have o__law_names : FnOk l.prog w K mg base CX0 3 f6 _ ["_law_flow_here", "_law_many"] (sp0 K mg V.m__law_names) := ok__law_names T h__law_pick h__law_word F6
  have h__law_names : FnD l.prog w K mg base 3 "_law_names" ["_law_flow_here", "_law_many"] V.m__law_names := ⟨f6, _, PySem.W.mg_of X G a6, k6, F6.binds fun _ _ _ _ _ _ us hl => (match us, hl with | [_, _], _ => rfl), o__law_names⟩
  have o__law_reordered : FnOk l.prog w K mg base CX0 3 f8 _ ["_law_flow_here", "_law_plan"] (sp0 K mg V.m__law_reordered) := ok__law_reordered T h__law_plain_row h__law_shuffled F8
  have h__law_reordered : FnD l.prog w K mg base 3 "_law_reordered" ["_law_flow_here", "_law_plan"] V.m__law_reordered := ⟨f8, _, PySem.W.mg_of X G a8, k8, F8.binds fun _ _ _ _ _ _ us hl => (match us, hl with | [_, _], _ => rfl), o__law_reordered⟩
  have o__law_map_of : FnOk l.prog w K mg base CX0 3 f17 _ ["_law_yard", "_law_most"] (sp0 K mg V.m__law_map_of) := ok__law_map_of T h__law_walked F17
  have h__law_map_of : FnD l.prog w K mg base 3 "_law_map_of" ["_law_yard", "_law_most"] V.m__law_map_of := ⟨f17, _, PySem.W.mg_of X G a17, k17, F17.binds fun _ _ _ _ _ _ us hl => (match us, hl with | [_, _], _ => rfl), o__law_map_of⟩
  have o__law_row : FnOk l.prog w K mg base CX0 3 f22 _ ["_law_flow_here", "_law_plan", "_law_here"] (sp0 K mg m__law_row) := ok__law_row T h__law_pick h__law_word F22
  have h__law_row : FnD l.prog w K mg base 3 "_law_row" ["_law_flow_here", "_law_plan", "_law_here"] m__law_row := ⟨f22, _, PySem.W.mg_of X G a22, k22, F22.binds fun _ _ _ _ _ _ us hl => (match us, hl with | [_, _, _], _ => rfl), o__law_row⟩
  have o__law_any_map : FnOk l.prog w K mg base CX0 4 f7 _ ["_law_flow_here", "_law_most", "_law_deeds"] (sp0 K mg V.m__law_any_map) := ok__law_any_map T h__law_names h__law_pick h__law_reordered F7
  have h__law_any_map : FnD l.prog w K mg base 4 "_law_any_map" ["_law_flow_here", "_law_most", "_law_deeds"] V.m__law_any_map := ⟨f7, _, PySem.W.mg_of X G a7, k7, F7.binds fun _ _ _ _ _ _ us hl => (match us, hl with | [_, _, _], _ => rfl), o__law_any_map⟩
  have o__law_any_yard : FnOk l.prog w K mg base CX0 4 f16 _ ["_law_flow_here", "_law_most"] (sp0 K mg V.m__law_any_yard) := ok__law_any_yard T h__law_fuel h__law_heap h__law_names h__law_pick h__law_ring_heaps h__law_shuffled F16
  have h__law_any_yard : FnD l.prog w K mg base 4 "_law_any_yard" ["_law_flow_here", "_law_most"] V.m__law_any_yard := ⟨f16, _, PySem.W.mg_of X G a16, k16, F16.binds fun _ _ _ _ _ _ us hl => (match us, hl with | [_, _], _ => rfl), o__law_any_yard⟩
  have o__law_map : FnOk l.prog w K mg base CX0 5 f20 _ ["_law_flow_here", "_law_most", "_law_deeds"] (sp0 K mg V.m__law_map) := ok__law_map T h__law_any_map h__law_any_yard h__law_map_of h__law_marred h__law_pick h__law_reordered F20
  have h__law_map : FnD l.prog w K mg base 5 "_law_map" ["_law_flow_here", "_law_most", "_law_deeds"] V.m__law_map := ⟨f20, _, PySem.W.mg_of X G a20, k20, F20.binds fun _ _ _ _ _ _ us hl => (match us, hl with | [_, _, _], _ => rfl), o__law_map⟩
  have o__law_alike : ∀ n : Nat, FnOk l.prog w K mg base CX0 (1 + n) f21 (PySem.W.fnOf "_law_alike" "_law_alike" (defArgs st__law_alike) (defBody st__law_alike) (defScope st__law_alike) .none kV21 dc21 pm21 an21 cd21 ct21) ["_law_found", "_law_due_here"] (sp0 K mg (m__law_alike n)) := fun n => by
    induction n with
    | zero => exact ok0__law_alike F21
    | succ n ih => exact ok__law_alike T ⟨f21, _, PySem.W.mg_of X G a21, k21, F21.binds fun _ _ _ _ _ _ us hl => (match us, hl with | [_, _], _ => rfl), ih⟩ F21
  have h__law_alike : FnD l.prog w K mg base 13 "_law_alike" ["_law_found", "_law_due_here"] (m__law_alike 12) := ⟨f21, _, PySem.W.mg_of X G a21, k21, F21.binds fun _ _ _ _ _ _ us hl => (match us, hl with | [_, _], _ => rfl), o__law_alike 12⟩
  have o__law_right : FnOk l.prog w K mg base CX0 14 f25 _ ["_law_flow_here", "_law_plan"] (sp0 K mg (m__law_right (hashStr w))) := ok__law_right T h__law_alike h__law_all_ways h__law_due h__law_pick h__law_row h_behind h_ways_of k_behind_0_row_chart_room k_ways_of_0_chart F25
  have h__law_right : FnD l.prog w K mg base 14 "_law_right" ["_law_flow_here", "_law_plan"] (m__law_right (hashStr w)) := ⟨f25, _, PySem.W.mg_of X G a25, k25, F25.binds fun _ _ _ _ _ _ us hl => (match us, hl with | [_, _], _ => rfl), o__law_right⟩
  have o_law : FnOk l.prog w K mg base CX0 15 fa _ ["_law_script"] (sp0 K mg (m_law (hashStr w))) := ok_law T h__law_any_map h__law_flow h__law_map h__law_right F26
  refine o_law.imp fun vs H Q E ⟨a, ns, e, hS, hl, q⟩ => ?_
  obtain ⟨m, hm⟩ := law_true (hashStr w) ns hl
  subst e
  refine ⟨⟨[], []⟩, [], [.scr (ns.map .int)], ⟨by simp, rfl, by simp, by simp, by simp⟩, reps_one (rep_scr ?_ (reps_ints ns)), ?_⟩
  · rcases hS with hS | hS
    · exact .inl ⟨hS, by simp, by simp⟩
    · exact .inr hS
  · rw [hm]
    intro v W' H' _ _ r
    rw [r.bl']
    exact q _
end Lw
open PySem PySem.W PyProof.Rows
set_option maxHeartbeats 0 in
theorem PySem.Challenge.cw_heaploom_k07_rows_followed_holds : PySem.Challenge.rw_heaploom_k07_rows_followed.Holds := by
  w_on; o_law; k_head; (case hw => w_witness2)
  k_fill
  refine L2.walk_of (l := PySem.Challenge.rw_heaploom_k07_rows_followed) (n := 63) (k := 15) (x := "_law_script") (CX := fun _ => L2.CX0) (sp := fun w => Lw.spLaw _) rfl (by decide) rfl ⟨rfl, by decide, by decide⟩ (fun w h Y => PySem.W.kIn_of Y) ?F (fun _ _ a ns hl _ hS => ⟨a, ns, rfl, hS, hl, fun _ => rfl⟩) (fun _ _ _ _ _ h => h)
  case F =>
    intro w mg fa h KX G hmg
    refine' Lw.all_mk KX G hmg ?a0 ?l0 ?c0 ?k0 ?a1 ?l1 ?c1 ?k1 ?a2 ?l2 ?c2 ?k2 ?a3 ?l3 ?c3 ?k3 ?a4 ?l4 ?c4 ?k4 ?a5 ?l5 ?c5 ?k5 ?a6 ?l6 ?c6 ?k6 ?a7 ?l7 ?c7 ?k7 ?a8 ?l8 ?c8 ?k8 ?a9 ?l9 ?c9 ?k9 ?a10 ?l10 ?c10 ?k10 ?a11 ?l11 ?c11 ?k11 ?a12 ?l12 ?c12 ?k12 ?a13 ?l13 ?c13 ?k13 ?a14 ?l14 ?c14 ?k14 ?a15 ?l15 ?c15 ?k15 ?a16 ?l16 ?c16 ?k16 ?a17 ?l17 ?c17 ?k17 ?a18 ?l18 ?c18 ?k18 ?a19 ?l19 ?c19 ?k19 ?a20 ?l20 ?c20 ?k20 ?a21 ?l21 ?c21 ?k21 ?a22 ?l22 ?c22 ?k22 ?a23 ?l23 ?c23 ?k23 ?a24 ?l24 ?c24 ?k24 ?a25 ?l25 ?c25 ?k25 ?a26 ?l26 ?c26 ?k26 ?z_all ?z_any ?z_bool ?z_enumerate ?z_int ?z_isinstance ?z_len ?z_list ?z_max ?z_range ?z_sorted ?z_str ?z_tuple ?z_zip
    (case a0 => k_is); (case l0 => k_is); (case c0 => k_is); (case k0 => k_is); (case a1 => k_is); (case l1 => k_is); (case c1 => k_is); (case k1 => k_is); (case a2 => k_is); (case l2 => k_is); (case c2 => k_is); (case k2 => k_is); (case a3 => k_is); (case l3 => k_is); (case c3 => k_is); (case k3 => k_is); (case a4 => k_is); (case l4 => k_is); (case c4 => k_is); (case k4 => k_is); (case a5 => k_is); (case l5 => k_is); (case c5 => k_is); (case k5 => k_is); (case a6 => k_is); (case l6 => k_is); (case c6 => k_is); (case k6 => k_is); (case a7 => k_is); (case l7 => k_is); (case c7 => k_is); (case k7 => k_is); (case a8 => k_is); (case l8 => k_is); (case c8 => k_is); (case k8 => k_is); (case a9 => k_is); (case l9 => k_is); (case c9 => k_is); (case k9 => k_is); (case a10 => k_is); (case l10 => k_is); (case c10 => k_is); (case k10 => k_is); (case a11 => k_is); (case l11 => k_is); (case c11 => k_is); (case k11 => k_is); (case a12 => k_is); (case l12 => k_is); (case c12 => k_is); (case k12 => k_is); (case a13 => k_is); (case l13 => k_is); (case c13 => k_is); (case k13 => k_is); (case a14 => k_is); (case l14 => k_is); (case c14 => k_is); (case k14 => k_is); (case a15 => k_is); (case l15 => k_is); (case c15 => k_is); (case k15 => k_is); (case a16 => k_is); (case l16 => k_is); (case c16 => k_is); (case k16 => k_is); (case a17 => k_is); (case l17 => k_is); (case c17 => k_is); (case k17 => k_is); (case a18 => k_is); (case l18 => k_is); (case c18 => k_is); (case k18 => k_is); (case a19 => k_is); (case l19 => k_is); (case c19 => k_is); (case k19 => k_is); (case a20 => k_is); (case l20 => k_is); (case c20 => k_is); (case k20 => k_is); (case a21 => k_is); (case l21 => k_is); (case c21 => k_is); (case k21 => k_is); (case a22 => k_is); (case l22 => k_is); (case c22 => k_is); (case k22 => k_is); (case a23 => k_is); (case l23 => k_is); (case c23 => k_is); (case k23 => k_is); (case a24 => k_is); (case l24 => k_is); (case c24 => k_is); (case k24 => k_is); (case a25 => k_is); (case l25 => k_is); (case c25 => k_is); (case k25 => k_is); (case a26 => k_is); (case l26 => k_is); (case c26 => k_is); (case k26 => k_is); (case z_all => k_is); (case z_any => k_is); (case z_bool => k_is); (case z_enumerate => k_is); (case z_int => k_is); (case z_isinstance => k_is); (case z_len => k_is); (case z_list => k_is); (case z_max => k_is); (case z_range => k_is); (case z_sorted => k_is); (case z_str => k_is); (case z_tuple => k_is); (case z_zip => k_is)
