import PyProof.Rows.All
import Wide.All
import OpenK.AllK
import Wide.FinOn
import HandS.ForMost
import HandS.Wide
import HandS.Exc
import HandS.TupAny
import HandS.IsInst
import HandS.Zip
import HandS.Rev
import HandS.RevRange
import HandS.Codes
import HandS.Deep
import HandS.Strs
import HandS.Defaults
import HandS.Replace
import HandS.Style
import HandS.Flt
import HandS.FStr
import HandS.Text
import PyProof.StrOps2
import PyProof.FitsStr
import KE.GoesNew
import KE.GoesMore
import KE.GoesEnumKw
import HandS.TupMul
import HandS.Flow
import KE.IntTextLaws
import HandS.TupLe
import KE.KDictDisplayH
import HandS.SetFor
import HandS.WideBits
import HandS.SetKeys
import HandS.SortKw
import PyProof.MinMaxWalk
import PyProof.WalkInts
import HandS.Walk
import HandS.Set
import KE.KDictPairs
import HandS.WordsDict
import HandS.TryMany
import HandS.ExcInit
import HandS.ExcIs
import KE.KExcIs
import HandS.WordsExc
import HandS.ExcField
import HandS.Conv
import KE.KIsAll
import HandS.RaiseMore
import PyProof.ListStr
import PyProof.ExcBaseAll.LookupError
import PyProof.ExcBaseAll.OverflowError
import PyProof.InstStore
import HandS.OwnEq
import PyProof.InstSpecial
import PyProof.InstNe
import KE.KCallOwn
import HandS.MakeKw
import HandS.MakeKwOnly
import PyProof.ReprRoads
import PyProof.CallFns
import HandS.Ends
import PyProof.FitsInt
import PySem.Challenge.RW_heaploom_k01_refusals
set_option Elab.async false
set_option linter.all false
set_option maxRecDepth 100000
set_option maxHeartbeats 4000000
set_option autoImplicit false
/-! Mir: plain data, a memory of cells, mirrors of Python code, and the rules that tie them to the hand layer. -/
namespace Mir
open PySem PySem.Spec PyProof.Rows L2
abbrev SL := L2.St

/-- an equation that is not told to be one by reckoning -/
theorem nr {α : Sort _} {a b : α} (h : a = b) : a = b := h
/-! ### data -/
inductive D where
  | non | bl (b : Bool) | int (i : Int) | str (x : Str) | tup (ds : List D) | lst (ds : List D) | scr (ds : List D) | ref (i : Nat)
inductive Cell where
  | lst (ds : List D) | dK (kvs : List (Key × D)) | dT (kvs : List (List Int × D)) | ins (c : Str) (fs : List (Str × D)) | dKz (kvs : List (Key × D)) | dTz (kvs : List (List Int × D)) | exc (c : Str) (fs : List (Str × D))
abbrev Mem := List Cell
abbrev Env' := List (Option D)
structure Exn where
  cls : Str
  fs : List (Str × D)
inductive R (α : Type) where
  | ok (a : α) (m : Mem) | exc (x : Exn) (m : Mem) | stk
def R.bind {α β : Type} (r : R α) (f : α → Mem → R β) : R β := match r with
  | .ok a m => f a m
  | .exc x m => .exc x m
  | .stk => .stk
@[simp] theorem bind_ok {α β : Type} (a : α) (m : Mem) (f : α → Mem → R β) : (R.ok a m).bind f = f a m := nr rfl
@[simp] theorem bind_exc {α β : Type} (x : Exn) (m : Mem) (f : α → Mem → R β) : (R.exc x m : R α).bind f = .exc x m := nr rfl
@[simp] theorem bind_stk {α β : Type} (f : α → Mem → R β) : (R.stk : R α).bind f = .stk := nr rfl

/-- the world: the cells' addresses; scratch addresses -/
structure Wd where
  i : List Addr
  z : List Addr

/-- an immediate list -/
def LIm (K : PySem.W.Frag) (W : Wd) (H : Hp) (a : Addr) (xs : List V) : Prop :=
  (Rd H a (.lst xs) ∧ a ∉ W.i ∧ a ∉ W.z) ∨
    ∃ (o : Obj) (its : Array Value) (n : Nat), K.lookup a = some o ∧ o.cls = .type "list" ∧ o.dict = none ∧ o.data = .seq its n ∧ its.size ≤ sizeLine ∧ Vals xs its.toList
theorem LIm.sq {K : PySem.W.Frag} {W : Wd} {H : Hp} {a : Addr} {xs : List V} (h : LIm K W H a xs) : SqL K H a xs := by
  rcases h with h | h
  · exact .inl h.1
  · exact .inr h

/-- a tuple that is read; it has no dict of its own -/
def SqF (K : PySem.W.Frag) (H : Hp) (a : Addr) (xs : List V) : Prop :=
  (∃ o, H a = some (.frz o (.tup xs)) ∧ o.dict = none ∧ o.cls = .type "tuple") ∨
    ∃ (o : Obj) (its : Array Value) (n : Nat), K.lookup a = some o ∧ o.cls = .type "tuple" ∧ o.dict = none ∧ o.data = .seq its n ∧ its.size ≤ sizeLine ∧ Vals xs its.toList
theorem SqF.t {K : PySem.W.Frag} {H : Hp} {a : Addr} {xs : List V} (h : SqF K H a xs) : SqT K H a xs := by
  rcases h with ⟨o, h, _⟩ | ⟨o, its, n, h1, h2, _, h3⟩
  · exact .inl (.inr ⟨o, h⟩)
  · exact .inr ⟨o, its, n, h1, h2, h3⟩

mutual
def Rep (K : PySem.W.Frag) (W : Wd) (H : Hp) : D → V → Prop
  | .non, v => v = .non
  | .bl b, v => v = .bl b
  | .int i, v => v = .int i
  | .str x, v => v = .str x
  | .tup ds, v => ∃ a vs, v = .ref a ∧ SqF K H a vs ∧ Reps K W H ds vs
  | .lst ds, v => ∃ a vs, v = .ref a ∧ (H a = some (.lst vs) ∧ a ∉ W.i ∧ a ∉ W.z) ∧ Reps K W H ds vs
  | .scr ds, v => ∃ a vs, v = .ref a ∧ LIm K W H a vs ∧ Reps K W H ds vs
  | .ref i, v => ∃ a, v = .ref a ∧ W.i[i]? = some a
def Reps (K : PySem.W.Frag) (W : Wd) (H : Hp) : List D → List V → Prop
  | [], vs => vs = []
  | d :: ds, vs => ∃ v r, vs = v :: r ∧ Rep K W H d v ∧ Reps K W H ds r
end

def immut : HO → Bool
  | .tup _ => true
  | .frz _ _ => true
  | _ => false

structure Ext (W : Wd) (H : Hp) (W' : Wd) (H' : Hp) : Prop where
  z : W'.z = W.z
  pre : ∃ t, W'.i = W.i ++ t
  new : ∀ a ∈ W'.i, a ∉ W.i → H a = none ∧ a ∉ W.z
  keep : ∀ a o, H a = some o → (immut o = true ∨ a ∉ W.i) → H' a = some o
theorem Ext.refl (W : Wd) (H : Hp) : Ext W H W H := ⟨rfl, ⟨[], by simp⟩, fun a h n => absurd h n, fun _ _ h _ => h⟩
theorem Ext.sub {W W' : Wd} {H H' : Hp} (e : Ext W H W' H') {a : Addr} (h : a ∈ W.i) : a ∈ W'.i := by
  obtain ⟨t, e⟩ := e.pre
  rw [e]
  exact List.mem_append_left _ h
theorem Ext.trans {W W1 W2 : Wd} {H H1 H2 : Hp} (a : Ext W H W1 H1) (b : Ext W1 H1 W2 H2) : Ext W H W2 H2 := by
  obtain ⟨t1, e1⟩ := a.pre
  obtain ⟨t2, e2⟩ := b.pre
  refine ⟨b.z.trans a.z, ⟨t1 ++ t2, by rw [e2, e1, List.append_assoc]⟩, fun x hx hn => ?_, fun x o h k => ?_⟩
  · by_cases h1 : x ∈ W1.i
    · exact a.new x h1 hn
    · have q := b.new x hx h1
      have hz : x ∉ W.z := by rw [← a.z]; exact q.2
      refine ⟨?_, hz⟩
      cases hh : H x with
      | none => rfl
      | some o =>
        have := a.keep x o hh (.inr hn)
        rw [q.1] at this
        cases this
  · have h1 := a.keep x o h k
    refine b.keep x o h1 ?_
    rcases k with k | k1
    · exact .inl k
    · refine .inr fun hx => ?_
      have := (a.new x hx k1).1
      rw [this] at h
      cases h
theorem Ext.sqF {K : PySem.W.Frag} {W W' : Wd} {H H' : Hp} (e : Ext W H W' H') {a : Addr} {vs : List V} (h : SqF K H a vs) : SqF K H' a vs := by
  rcases h with ⟨o, h, k⟩ | h
  · exact .inl ⟨o, e.keep _ _ h (.inl rfl), k⟩
  · exact .inr h
theorem Ext.lim {K : PySem.W.Frag} {W W' : Wd} {H H' : Hp} (e : Ext W H W' H') {a : Addr} {vs : List V} (h : LIm K W H a vs) : LIm K W' H' a vs := by
  rcases h with ⟨h, k1, k2⟩ | h
  · have hs : ∃ o, H a = some o := by
      rcases h with h | ⟨o, h⟩
      · exact ⟨_, h⟩
      · exact ⟨_, h⟩
    obtain ⟨o, ho⟩ := hs
    refine .inl ⟨?_, fun hx => ?_, by rw [e.z]; exact k2⟩
    · rcases h with h | ⟨o, h⟩
      · exact .inl (e.keep _ _ h (.inr k1))
      · exact .inr ⟨o, e.keep _ _ h (.inl rfl)⟩
    · have := (e.new a hx k1).1
      rw [this] at ho
      cases ho
  · exact .inr h
theorem Ext.lims {W W' : Wd} {H H' : Hp} (e : Ext W H W' H') {a : Addr} {o : HO} (h : H a = some o ∧ a ∉ W.i ∧ a ∉ W.z) : H' a = some o ∧ a ∉ W'.i ∧ a ∉ W'.z :=
  ⟨e.keep a o h.1 (.inr h.2.1), (fun hx => by
    have := (e.new a hx h.2.1).1
    rw [h.1] at this
    cases this), by rw [e.z]; exact h.2.2⟩
mutual
theorem Rep.ext {K : PySem.W.Frag} {W W' : Wd} {H H' : Hp} (e : Ext W H W' H') : ∀ {d : D} {v : V}, Rep K W H d v → Rep K W' H' d v
  | .non, v, h => by unfold Rep at h ⊢; exact h
  | .bl b, v, h => by unfold Rep at h ⊢; exact h
  | .int i, v, h => by unfold Rep at h ⊢; exact h
  | .str x, v, h => by unfold Rep at h ⊢; exact h
  | .tup ds, v, h => by
    unfold Rep at h ⊢
    obtain ⟨a, vs, e1, e2, e3⟩ := h
    exact ⟨a, vs, e1, e.sqF e2, Reps.ext e e3⟩
  | .lst ds, v, h => by
    unfold Rep at h ⊢
    obtain ⟨a, vs, e1, e2, e3⟩ := h
    exact ⟨a, vs, e1, e.lims e2, Reps.ext e e3⟩
  | .scr ds, v, h => by
    unfold Rep at h ⊢
    obtain ⟨a, vs, e1, e2, e3⟩ := h
    exact ⟨a, vs, e1, e.lim e2, Reps.ext e e3⟩
  | .ref i, v, h => by
    unfold Rep at h ⊢
    obtain ⟨a, e1, e2⟩ := h
    obtain ⟨t, et⟩ := e.pre
    refine ⟨a, e1, ?_⟩
    rw [et, List.getElem?_append_left (List.getElem?_eq_some_iff.mp e2).1]
    exact e2
theorem Reps.ext {K : PySem.W.Frag} {W W' : Wd} {H H' : Hp} (e : Ext W H W' H') : ∀ {ds : List D} {vs : List V}, Reps K W H ds vs → Reps K W' H' ds vs
  | [], vs, h => by unfold Reps at h ⊢; exact h
  | d :: ds, vs, h => by
    unfold Reps at h ⊢
    obtain ⟨v, r, e1, e2, e3⟩ := h
    exact ⟨v, r, e1, Rep.ext e e2, Reps.ext e e3⟩
end
section
variable {K : PySem.W.Frag} {W : Wd} {H : Hp}
theorem rep_non : Rep K W H .non .non := by unfold Rep; rfl
theorem rep_bl {b : Bool} : Rep K W H (.bl b) (.bl b) := by unfold Rep; rfl
theorem rep_int {i : Int} : Rep K W H (.int i) (.int i) := by unfold Rep; rfl
theorem rep_str {x : Str} : Rep K W H (.str x) (.str x) := by unfold Rep; rfl
theorem reps_nil : Reps K W H [] [] := by unfold Reps; rfl
theorem reps_cons {d : D} {ds : List D} {v : V} {vs : List V} (h : Rep K W H d v) (t : Reps K W H ds vs) : Reps K W H (d :: ds) (v :: vs) := by unfold Reps; exact ⟨v, vs, rfl, h, t⟩
theorem rep_tup {a : Addr} {vs : List V} {ds : List D} (h : SqF K H a vs) (r : Reps K W H ds vs) : Rep K W H (.tup ds) (.ref a) := by unfold Rep; exact ⟨a, vs, rfl, h, r⟩
theorem rep_scr {a : Addr} {vs : List V} {ds : List D} (h : LIm K W H a vs) (r : Reps K W H ds vs) : Rep K W H (.scr ds) (.ref a) := by unfold Rep; exact ⟨a, vs, rfl, h, r⟩
theorem Rep.scr' {ds : List D} {v : V} (h : Rep K W H (.scr ds) v) : ∃ a vs, v = .ref a ∧ LIm K W H a vs ∧ Reps K W H ds vs := by unfold Rep at h; exact h
theorem rep_lst {a : Addr} {vs : List V} {ds : List D} (h : H a = some (.lst vs) ∧ a ∉ W.i ∧ a ∉ W.z) (r : Reps K W H ds vs) : Rep K W H (.lst ds) (.ref a) := by unfold Rep; exact ⟨a, vs, rfl, h, r⟩
theorem rep_ref {a : Addr} {i : Nat} (h : W.i[i]? = some a) : Rep K W H (.ref i) (.ref a) := by unfold Rep; exact ⟨a, rfl, h⟩
theorem Rep.non' {v : V} (h : Rep K W H .non v) : v = .non := by unfold Rep at h; exact h
theorem Rep.bl' {b : Bool} {v : V} (h : Rep K W H (.bl b) v) : v = .bl b := by unfold Rep at h; exact h
theorem Rep.int' {i : Int} {v : V} (h : Rep K W H (.int i) v) : v = .int i := by unfold Rep at h; exact h
theorem Rep.str' {x : Str} {v : V} (h : Rep K W H (.str x) v) : v = .str x := by unfold Rep at h; exact h
theorem Rep.tupF' {ds : List D} {v : V} (h : Rep K W H (.tup ds) v) : ∃ a vs, v = .ref a ∧ SqF K H a vs ∧ Reps K W H ds vs := by unfold Rep at h; exact h
theorem Rep.tup' {ds : List D} {v : V} (h : Rep K W H (.tup ds) v) : ∃ a vs, v = .ref a ∧ SqT K H a vs ∧ Reps K W H ds vs := let ⟨a, vs, e1, e2, e3⟩ := h.tupF'; ⟨a, vs, e1, e2.t, e3⟩
theorem Rep.lst' {ds : List D} {v : V} (h : Rep K W H (.lst ds) v) : ∃ a vs, v = .ref a ∧ (H a = some (.lst vs) ∧ a ∉ W.i ∧ a ∉ W.z) ∧ Reps K W H ds vs := by unfold Rep at h; exact h
theorem Rep.ref' {i : Nat} {v : V} (h : Rep K W H (.ref i) v) : ∃ a, v = .ref a ∧ W.i[i]? = some a := by unfold Rep at h; exact h
theorem Reps.nil' {vs : List V} (h : Reps K W H [] vs) : vs = [] := by unfold Reps at h; exact h
theorem Reps.cons' {d : D} {ds : List D} {vs : List V} (h : Reps K W H (d :: ds) vs) : ∃ v r, vs = v :: r ∧ Rep K W H d v ∧ Reps K W H ds r := by unfold Reps at h; exact h
theorem Reps.length : ∀ {ds : List D} {vs : List V}, Reps K W H ds vs → vs.length = ds.length
  | [], vs, h => by rw [h.nil']; rfl
  | d :: ds, vs, h => by
    obtain ⟨v, r, rfl, _, h3⟩ := h.cons'
    rw [List.length_cons, List.length_cons, Reps.length h3]
theorem Reps.get : ∀ {ds : List D} {vs : List V} {i : Nat} {d : D}, Reps K W H ds vs → ds[i]? = some d → ∃ v, vs[i]? = some v ∧ Rep K W H d v
  | [], vs, i, d, h, e => by simp at e
  | x :: ds, vs, 0, d, h, e => by
    obtain ⟨v, r, rfl, h2, h3⟩ := h.cons'
    simp at e
    subst e
    exact ⟨v, rfl, h2⟩
  | x :: ds, vs, i + 1, d, h, e => by
    obtain ⟨v, r, rfl, h2, h3⟩ := h.cons'
    obtain ⟨u, e1, e2⟩ := Reps.get (i := i) h3 (by simpa using e)
    exact ⟨u, by simpa using e1, e2⟩
theorem Reps.append : ∀ {ds es : List D} {vs us : List V}, Reps K W H ds vs → Reps K W H es us → Reps K W H (ds ++ es) (vs ++ us)
  | [], es, vs, us, h, k => by rw [h.nil']; exact k
  | d :: ds, es, vs, us, h, k => by
    obtain ⟨v, r, rfl, h2, h3⟩ := h.cons'
    exact reps_cons h2 (Reps.append h3 k)
theorem reps_one {d : D} {v : V} (h : Rep K W H d v) : Reps K W H [d] [v] := reps_cons h reps_nil
theorem Reps.take : ∀ {ds : List D} {vs : List V} (n : Nat), Reps K W H ds vs → Reps K W H (ds.take n) (vs.take n)
  | _, _, 0, _ => by simpa using reps_nil
  | [], vs, n + 1, h => by rw [h.nil']; simpa using reps_nil
  | d :: ds, vs, n + 1, h => by
    obtain ⟨v, r, rfl, h2, h3⟩ := h.cons'
    exact reps_cons h2 (Reps.take n h3)
theorem Reps.drop : ∀ {ds : List D} {vs : List V} (n : Nat), Reps K W H ds vs → Reps K W H (ds.drop n) (vs.drop n)
  | _, _, 0, h => by simpa using h
  | [], vs, n + 1, h => by rw [h.nil']; simpa using reps_nil
  | d :: ds, vs, n + 1, h => by
    obtain ⟨v, r, rfl, h2, h3⟩ := h.cons'
    exact Reps.drop n h3
theorem Reps.set : ∀ {ds : List D} {vs : List V} {d : D} {v : V} (n : Nat), Reps K W H ds vs → Rep K W H d v → Reps K W H (ds.set n d) (vs.set n v)
  | [], vs, d, v, n, h, k => by rw [h.nil']; simpa using reps_nil
  | x :: ds, vs, d, v, 0, h, k => by
    obtain ⟨u, r, rfl, h2, h3⟩ := h.cons'
    exact reps_cons k h3
  | x :: ds, vs, d, v, n + 1, h, k => by
    obtain ⟨u, r, rfl, h2, h3⟩ := h.cons'
    exact reps_cons h2 (Reps.set n h3 k)
theorem Reps.reverse {ds : List D} {vs : List V} (h : Reps K W H ds vs) : Reps K W H ds.reverse vs.reverse := by
  induction ds generalizing vs with
  | nil => rw [h.nil']; exact reps_nil
  | cons d ds ih =>
    obtain ⟨v, r, rfl, h2, h3⟩ := h.cons'
    rw [List.reverse_cons, List.reverse_cons]
    exact (ih h3).append (reps_one h2)
theorem reps_ints : ∀ ns : List Int, Reps K W H (ns.map D.int) (ns.map V.int)
  | [] => reps_nil
  | n :: ns => reps_cons rep_int (reps_ints ns)
end

/-- a dict whose keys are tuples of ints, by its entries: the keys, where their tuples stand, the values -/
def entI (x : List Int × Addr × Value) : DictEntry := ⟨reduceHash (Builtin.Tuple.tupleHashOf (x.1.map hashInt)), .ref x.2.1, x.2.2⟩
def dictI (a : Addr) (kvs : List (List Int × Addr × V)) : HO := .ext fun h => kvs.length ≤ sizeLine ∧ (a == sysModules) = false ∧ ∃ xs : List (List Int × Addr × Value),
  Paired (fun (p : List Int × Addr × V) (q : List Int × Addr × Value) => p.1 = q.1 ∧ p.2.1 = q.2.1 ∧ RelV p.2.2 q.2.2) kvs xs ∧
  ∃ o es ep, h.get? a = some o ∧ o.ExactDict ∧ o.data = .dict es ep ∧ es.toList = xs.map entI ∧ (xs.map (·.1)).Nodup
/-- a caught exception at a, of the class C, its dict at o -/
def ExH (C : Value) (o : Option Addr) (a : Addr) : HO := .ext fun h => ∃ (oe : Obj) (vs : Array Value), h.get? a = some oe ∧ Zc C o oe ∧ oe.data = .fields vs
/-- the fields of an exception -/
def XFs (K : PySem.W.Frag) (W : Wd) (H : Hp) (fs : List (Str × D)) (o : Option Addr) : Prop :=
  (fs = [] ∧ o = none) ∨ ∃ d gs, o = some d ∧ (H d = some (.xd gs) ∧ d ∉ W.i ∧ d ∉ W.z) ∧ gs.map (·.1) = fs.map (·.1) ∧ Reps K W H (fs.map (·.2)) (gs.map (·.2))
theorem XFs.ext {K : PySem.W.Frag} {W W' : Wd} {H H' : Hp} {fs : List (Str × D)} {o : Option Addr} (e : Ext W H W' H') (h : XFs K W H fs o) : XFs K W' H' fs o := by
  rcases h with h | ⟨d, gs, e1, e2, e3, e4⟩
  · exact .inl h
  · exact .inr ⟨d, gs, e1, e.lims e2, e3, e4.ext e⟩
/-! ### the memory -/
section
variable (K : PySem.W.Frag) (mg : Str → Option Value)
def CellOk (W : Wd) (H : Hp) (a : Addr) : Cell → Prop
  | .lst ds => ∃ vs, H a = some (.lst vs) ∧ Reps K W H ds vs
  | .dK kvs => ∃ kvs', H a = some (.dK kvs') ∧ kvs'.map (·.1) = kvs.map (·.1) ∧ Reps K W H (kvs.map (·.2)) (kvs'.map (·.2))
  | .dT kvs => ∃ kvs', H a = some (dictI a kvs') ∧ kvs'.map (·.1) = kvs.map (·.1) ∧ (∀ x ∈ kvs', SqF K H x.2.1 (x.1.map V.int)) ∧ Reps K W H (kvs.map (·.2)) (kvs'.map (·.2.2))
  | .ins c fs => ∃ C dx fs', mg c = some (.ref C) ∧ H a = some (.ins C dx fs') ∧ fs'.map (·.1) = fs.map (·.1) ∧ Reps K W H (fs.map (·.2)) (fs'.map (·.2))
  | .dKz kvs => ∃ o kvs', H a = some (.frz o (.dK kvs')) ∧ kvs'.map (·.1) = kvs.map (·.1) ∧ Reps K W H (kvs.map (·.2)) (kvs'.map (·.2))
  | .dTz kvs => ∃ o kvs', H a = some (.frz o (dictI a kvs')) ∧ kvs'.map (·.1) = kvs.map (·.1) ∧ (∀ x ∈ kvs', SqF K H x.2.1 (x.1.map V.int)) ∧ Reps K W H (kvs.map (·.2)) (kvs'.map (·.2.2))
  | .exc c fs => ∃ C o, mg c = some C ∧ H a = some (ExH C o a) ∧ XFs K W H fs o
structure Sim (W : Wd) (H : Hp) (m : Mem) : Prop where
  nd : W.i.Nodup
  len : W.i.length = m.length
  cell : ∀ (i : Nat) (a : Addr) (c : Cell), W.i[i]? = some a → m[i]? = some c → CellOk K mg W H a c
  sep : ∀ a ∈ W.i, a ∉ W.z
  zs : ∀ a ∈ W.z, ∃ o, H a = some o
theorem upd_some {H : Hp} {p a : Addr} {o : HO} (h : ∃ u, H a = some u) : ∃ u, upd H p o a = some u := by
  by_cases e : a = p
  · subst e; exact ⟨_, upd_same⟩
  · rw [upd_ne e]; exact h
def REnv (W : Wd) (H : Hp) (η : Env') (σ : SL) : Prop := η.length = σ.length ∧ ∀ (i : Nat) (d : D), η[i]? = some (some d) → ∃ v, σ[i]? = some (some v) ∧ Rep K W H d v
end
section
variable {K : PySem.W.Frag} {mg : Str → Option Value} {W W' : Wd} {H H' : Hp} {m : Mem}
theorem CellOk.mut {a : Addr} {c : Cell} (h : CellOk K mg W H a c) : ∃ o, H a = some o ∧ True := by
  cases c with
  | lst ds => obtain ⟨vs, e, _⟩ := h; exact ⟨_, e, trivial⟩
  | dK kvs => obtain ⟨vs, e, _⟩ := h; exact ⟨_, e, trivial⟩
  | dT kvs => obtain ⟨vs, e, _⟩ := h; exact ⟨_, e, trivial⟩
  | ins c fs => obtain ⟨_, _, _, _, e, _⟩ := h; exact ⟨_, e, trivial⟩
  | dKz kvs => obtain ⟨_, _, e, _⟩ := h; exact ⟨_, e, trivial⟩
  | dTz kvs => obtain ⟨_, _, e, _⟩ := h; exact ⟨_, e, trivial⟩
  | exc c fs => obtain ⟨_, _, _, e, _⟩ := h; exact ⟨_, e, trivial⟩
theorem Sim.at (s : Sim K mg W H m) {a : Addr} (h : a ∈ W.i) : ∃ o, H a = some o ∧ True := by
  obtain ⟨i, hi, e⟩ := List.mem_iff_getElem.mp h
  have hm : i < m.length := by rw [← s.len]; exact hi
  exact (s.cell i a m[i] (by rw [← e]; exact List.getElem?_eq_getElem hi) (List.getElem?_eq_getElem hm)).mut
/-- what is true of the cells stays, where the heap is the same at a -/
theorem CellOk.ext {a : Addr} {c : Cell} (e : Ext W H W' H') (ha : H' a = H a) (h : CellOk K mg W H a c) : CellOk K mg W' H' a c := by
  cases c with
  | lst ds => obtain ⟨vs, e1, e2⟩ := h; exact ⟨vs, ha.trans e1, e2.ext e⟩
  | dK kvs => obtain ⟨vs, e1, e2, e3⟩ := h; exact ⟨vs, ha.trans e1, e2, e3.ext e⟩
  | dT kvs => obtain ⟨vs, e1, e2, e3, e4⟩ := h; exact ⟨vs, ha.trans e1, e2, fun x hx => e.sqF (e3 x hx), e4.ext e⟩
  | ins c fs => obtain ⟨C, dx, fs', e0, e1, e2, e3⟩ := h; exact ⟨C, dx, fs', e0, ha.trans e1, e2, e3.ext e⟩
  | dKz kvs => obtain ⟨o, vs, e1, e2, e3⟩ := h; exact ⟨o, vs, ha.trans e1, e2, e3.ext e⟩
  | dTz kvs => obtain ⟨o, vs, e1, e2, e3, e4⟩ := h; exact ⟨o, vs, ha.trans e1, e2, fun x hx => e.sqF (e3 x hx), e4.ext e⟩
  | exc c fs => obtain ⟨C, o, e0, e1, e2⟩ := h; exact ⟨C, o, e0, ha.trans e1, e2.ext e⟩
/-- a fresh object beside the cells -/
theorem Ext.fresh {p : Addr} {o : HO} (h : H p = none) : Ext W H W (upd H p o) :=
  ⟨rfl, ⟨[], by simp⟩, fun a h n => absurd h n, fun a u e _ => by rw [upd_ne (ne_of_none e h)]; exact e⟩
theorem Sim.fresh (s : Sim K mg W H m) {p : Addr} {o : HO} (h : H p = none) : Sim K mg W (upd H p o) m :=
  ⟨s.nd, s.len, fun i a c e1 e2 => (s.cell i a c e1 e2).ext (Ext.fresh h) (by
    obtain ⟨u, e, _⟩ := (s.cell i a c e1 e2).mut
    exact upd_ne (ne_of_none e h)), s.sep, fun a ha => upd_some (s.zs a ha)⟩
theorem Sim.nin (s : Sim K mg W H m) {p : Addr} (h : H p = none) : p ∉ W.i := fun hp => by
  obtain ⟨o, e, _⟩ := s.at hp
  rw [h] at e
  cases e
theorem Sim.ninz (s : Sim K mg W H m) {p : Addr} (h : H p = none) : p ∉ W.z := fun hp => by
  obtain ⟨o, e⟩ := s.zs p hp
  rw [h] at e
  cases e
/-- a new cell -/
def Wd.add (W : Wd) (p : Addr) : Wd := ⟨W.i ++ [p], W.z⟩
theorem Ext.alloc {p : Addr} {o : HO} (h : H p = none) (hz : p ∉ W.z) : Ext W H (W.add p) (upd H p o) :=
  ⟨rfl, ⟨[p], rfl⟩, fun a h' n => by
    have : a = p := by
      rcases List.mem_append.mp h' with q | q
      · exact absurd q n
      · simpa using q
    subst this
    exact ⟨h, hz⟩, fun a u e _ => by rw [upd_ne (ne_of_none e h)]; exact e⟩
theorem Sim.alloc (s : Sim K mg W H m) {p : Addr} {o : HO} {c : Cell} (h : H p = none) (hc : CellOk K mg (W.add p) (upd H p o) p c) : Sim K mg (W.add p) (upd H p o) (m ++ [c]) := by
  have hz := s.ninz h
  refine ⟨?_, ?_, fun i a c' e1 e2 => ?_, fun a ha => ?_, fun a ha => upd_some (s.zs a ha)⟩
  · refine List.nodup_append.mpr ⟨s.nd, by simp, fun a ha b hb => ?_⟩
    rintro rfl
    have : a = p := by simpa using hb
    subst this
    exact s.nin h ha
  · show (W.i ++ [p]).length = _
    rw [List.length_append, List.length_append, s.len]
    rfl
  · have e1 : (W.i ++ [p])[i]? = some a := e1
    by_cases hi : i < W.i.length
    · rw [List.getElem?_append_left hi] at e1
      rw [List.getElem?_append_left (by rw [← s.len]; exact hi)] at e2
      have k := s.cell i a c' e1 e2
      obtain ⟨u, e, _⟩ := k.mut
      exact k.ext (Ext.alloc h hz) (upd_ne (ne_of_none e h))
    · have hi' : i = W.i.length := by
        have := (List.getElem?_eq_some_iff.mp e1).1
        rw [List.length_append] at this
        simp at this
        omega
      subst hi'
      rw [List.getElem?_append_right (Nat.le_refl _), Nat.sub_self] at e1
      rw [s.len, List.getElem?_append_right (Nat.le_refl _), Nat.sub_self] at e2
      simp at e1 e2
      subst e1
      subst e2
      exact hc
  · rcases List.mem_append.mp ha with q | q
    · exact s.sep a q
    · have : a = p := by simpa using q
      subst this
      exact hz
/-- a cell is changed -/
theorem Ext.mut {a : Addr} {o o' : HO} (ha : a ∈ W.i) (h : H a = some o) (hi : immut o = false) : Ext W H W (upd H a o') :=
  ⟨rfl, ⟨[], by simp⟩, fun a h n => absurd h n, fun b u e k => by
    have : b ≠ a := by
      rintro rfl
      rcases k with k | k
      · rw [h] at e
        cases e
        rw [hi] at k
        cases k
      · exact k ha
    rw [upd_ne this]
    exact e⟩
theorem Sim.mut (s : Sim K mg W H m) {i : Nat} {a : Addr} {o' : HO} {c : Cell} (hi : W.i[i]? = some a) (hc : CellOk K mg W (upd H a o') a c) (hq : ∃ o, H a = some o ∧ immut o = false := by exact ⟨_, by assumption, rfl⟩) : Sim K mg W (upd H a o') (m.set i c) := by
  have ha : a ∈ W.i := List.mem_of_getElem? hi
  obtain ⟨o, ho, hm⟩ := hq
  refine ⟨s.nd, by rw [List.length_set]; exact s.len, fun j b c' e1 e2 => ?_, s.sep, fun a ha => upd_some (s.zs a ha)⟩
  by_cases hj : j = i
  · subst hj
    rw [hi] at e1
    cases e1
    have hl : j < m.length := by
      rw [← s.len]
      exact (List.getElem?_eq_some_iff.mp hi).1
    rw [List.getElem?_set_self hl] at e2
    cases e2
    exact hc
  · rw [List.getElem?_set_ne (Ne.symm hj)] at e2
    have hb : b ≠ a := by
      rintro rfl
      exact hj ((List.getElem?_inj (List.getElem?_eq_some_iff.mp e1).1 s.nd).mp (e1.trans hi.symm))
    exact (s.cell j b c' e1 e2).ext (Ext.mut ha ho hm) (upd_ne hb)
theorem REnv.ext {η : Env'} {σ : SL} (e : Ext W H W' H') (h : REnv K W H η σ) : REnv K W' H' η σ :=
  ⟨h.1, fun i d q => let ⟨v, a, b⟩ := h.2 i d q; ⟨v, a, b.ext e⟩⟩
theorem REnv.set {η : Env'} {σ : SL} {i : Nat} {d : D} {v : V} (h : REnv K W H η σ) (r : Rep K W H d v) : REnv K W H (η.set i (some d)) (σ.set i (some v)) := by
  refine ⟨by rw [List.length_set, List.length_set]; exact h.1, fun j d' q => ?_⟩
  by_cases hj : i = j
  · subst hj
    have hl := (List.getElem?_eq_some_iff.mp q).1
    rw [List.length_set] at hl
    rw [List.getElem?_set_self hl] at q
    cases q
    exact ⟨v, List.getElem?_set_self (by rw [← h.1]; exact hl), r⟩
  · rw [List.getElem?_set_ne hj] at q
    obtain ⟨v', a, b⟩ := h.2 j d' q
    exact ⟨v', by rw [List.getElem?_set_ne hj]; exact a, b⟩
end

/-! ### what is wanted of a result -/
section
variable (K : PySem.W.Frag) (mg : Str → Option Value) (E : XK)
def ExR (x : Exn) (W : Wd) (H : Hp) (c : Value) (o : Option Addr) : Prop := mg x.cls = some c ∧ XFs K W H x.fs o
def Post {α β : Type} (Rl : Wd → Hp → α → β → Prop) (W : Wd) (H : Hp) (Q : β → Hp → Prop) : R α → Prop
  | .ok a m => ∀ b W' H', Ext W H W' H' → Sim K mg W' H' m → Rl W' H' a b → Q b H'
  | .exc x m => ∀ c o W' H', Ext W H W' H' → Sim K mg W' H' m → ExR K mg x W' H' c o → E c o H'
  | .stk => False
end
section
variable {K : PySem.W.Frag} {mg : Str → Option Value} {E : XK} {W W' : Wd} {H H' : Hp} {α β γ δ : Type} {Rl : Wd → Hp → α → β → Prop} {Rm : Wd → Hp → γ → δ → Prop}
theorem Post.ext {Q : β → Hp → Prop} {r : R α} (e : Ext W H W' H') (h : Post K mg E Rl W H Q r) : Post K mg E Rl W' H' Q r := by
  cases r with
  | ok a m => exact fun b W2 H2 e2 s q => h b W2 H2 (e.trans e2) s q
  | exc x m => exact fun c o W2 H2 e2 s q => h c o W2 H2 (e.trans e2) s q
  | stk => exact h
theorem Post.imp {Q Q' : β → Hp → Prop} {r : R α} (h : Post K mg E Rl W H Q r) (k : ∀ b H', Q b H' → Q' b H') : Post K mg E Rl W H Q' r := by
  cases r with
  | ok a m => exact fun b W2 H2 e2 s q => k _ _ (h b W2 H2 e2 s q)
  | exc x m => exact h
  | stk => exact h
theorem Post.bind {Q : δ → Hp → Prop} {r : R α} {f : α → Mem → R γ} (h : Post K mg E Rm W H Q (r.bind f)) :
    Post K mg E Rl W H (fun b H1 => ∃ W1 a m1, Ext W H W1 H1 ∧ Sim K mg W1 H1 m1 ∧ Rl W1 H1 a b ∧ Post K mg E Rm W1 H1 Q (f a m1)) r := by
  cases r with
  | ok a m => exact fun b W2 H2 e2 s q => ⟨W2, a, m, e2, s, q, Post.ext e2 h⟩
  | exc x m => exact h
  | stk => exact h
/-- a result at once -/
theorem Post.now {Q : β → Hp → Prop} {a : α} {m : Mem} {b : β} (h : Post K mg E Rl W H Q (.ok a m)) (s : Sim K mg W H m) (r : Rl W H a b) : Q b H := h b W H (Ext.refl W H) s r
end
/-- a new list, kept as a cell or at once -/
def mkL (al : Bool) (ds : List D) (m : Mem) : R D := match al with
  | true => .ok (.ref m.length) (m ++ [.lst ds])
  | false => .ok (.lst ds) m
section
variable {K : PySem.W.Frag} {mg : Str → Option Value} {E : XK} {W : Wd} {H : Hp} {m : Mem} {Q : VK} {ds : List D} {vs : List V} {p : Addr}
theorem Sim.newL {al : Bool} (s : Sim K mg W H m) (hp : H p = none) (r : Reps K W H ds vs) (h : Post K mg E (Rep K) W H Q (mkL al ds m)) : Q (.ref p) (upd H p (.lst vs)) := by
  cases al with
  | false => exact h _ W _ (Ext.fresh hp) (s.fresh hp) (rep_lst ⟨upd_same, s.nin hp, s.ninz hp⟩ (r.ext (Ext.fresh hp)))
  | true =>
    have e : Ext W H (W.add p) (upd H p (.lst vs)) := Ext.alloc hp (s.ninz hp)
    refine h _ (W.add p) _ e (s.alloc hp ⟨vs, upd_same, r.ext e⟩) (rep_ref ?_)
    show (W.i ++ [p])[m.length]? = some p
    rw [← s.len, List.getElem?_append_right (Nat.le_refl _), Nat.sub_self]
    rfl
theorem Sim.newT {o : Obj} (s : Sim K mg W H m) (hp : H p = none) (ho : o.dict = none ∧ o.cls = .type "tuple") (r : Reps K W H ds vs) (h : Post K mg E (Rep K) W H Q (.ok (.tup ds) m)) : Q (.ref p) (upd H p (.frz o (.tup vs))) :=
  h _ W _ (Ext.fresh hp) (s.fresh hp) (rep_tup (.inl ⟨o, upd_same, ho⟩) (r.ext (Ext.fresh hp)))
end
def lstC : Option Cell → Option (List D)
  | some (.lst ds) => some ds
  | _ => none
/-- a list that is read -/
def lstOf (m : Mem) : D → Option (List D)
  | .lst ds => some ds
  | .scr ds => some ds
  | .ref i => lstC m[i]?
  | _ => none
/-- a list that is a cell or made here (no script) -/
def lstOwn (m : Mem) : D → Option (List D)
  | .lst ds => some ds
  | .ref i => lstC m[i]?
  | _ => none
section
variable {K : PySem.W.Frag} {mg : Str → Option Value} {W : Wd} {H : Hp} {m : Mem} {d : D} {v : V} {ds : List D}
theorem Sim.own (s : Sim K mg W H m) (r : Rep K W H d v) (h : lstOwn m d = some ds) : ∃ a vs, v = .ref a ∧ H a = some (.lst vs) ∧ Reps K W H ds vs := by
  cases d with
  | lst xs =>
    cases h
    obtain ⟨a, vs, e1, e2, e3⟩ := r.lst'
    exact ⟨a, vs, e1, e2.1, e3⟩
  | ref i =>
    obtain ⟨a, e1, e2⟩ := r.ref'
    have h : lstC m[i]? = some ds := h
    cases hm : m[i]? with
    | none => rw [hm] at h; cases h
    | some c =>
      rw [hm] at h
      cases c with
      | lst xs =>
        cases h
        obtain ⟨vs, q1, q2⟩ := s.cell i a _ e2 hm
        exact ⟨a, vs, e1, q1, q2⟩
      | _ => cases h
  | _ => cases h
theorem Sim.lst (s : Sim K mg W H m) (r : Rep K W H d v) (h : lstOf m d = some ds) : ∃ a vs, v = .ref a ∧ SqL K H a vs ∧ Reps K W H ds vs := by
  cases d with
  | scr xs =>
    cases h
    obtain ⟨a, vs, e1, e2, e3⟩ := r.scr'
    exact ⟨a, vs, e1, e2.sq, e3⟩
  | lst xs =>
    obtain ⟨a, vs, e1, e2, e3⟩ := s.own r (ds := ds) h
    exact ⟨a, vs, e1, .inl (.inl e2), e3⟩
  | ref i =>
    obtain ⟨a, vs, e1, e2, e3⟩ := s.own r (ds := ds) h
    exact ⟨a, vs, e1, .inl (.inl e2), e3⟩
  | _ => cases h
end
/-- the relations for truths -/
def Same' {α : Type} (_ : Wd) (_ : Hp) (a b : α) : Prop := a = b
section
variable (K : PySem.W.Frag) (mg : Str → Option Value) (E : XK)
/-- the reading of a mirror -/
def rd {α β : Type} (Rl : Wd → Hp → α → β → Prop) (c : Env' → Mem → R α) : SL → Hp → (β → Hp → Prop) → Prop := fun σ H Q =>
  ∃ W η m, Sim K mg W H m ∧ REnv K W H η σ ∧ Post K mg E Rl W H Q (c η m)
abbrev rdE (c : Env' → Mem → R D) : TE := rd K mg E (Rep K) c
abbrev rdA (c : Env' → Mem → R (List D)) : TA := rd K mg E (Reps K) c
abbrev rdT (c : Env' → Mem → R Bool) : TT := rd K mg E Same' c
end
theorem _root_.L2.PE.imp {X : Cx} {e : Expr} {t t' : TE} (h : PE X e t) (k : ∀ σ H Q, t' σ H Q → t σ H Q) : PE X e t' := ⟨fun pins s σ H Q I q => h.run pins s σ H Q I (k σ H Q q)⟩
theorem _root_.L2.PT.imp {X : Cx} {e : Expr} {t t' : TT} (h : PT X e t) (k : ∀ σ H Q, t' σ H Q → t σ H Q) : PT X e t' := ⟨fun pins s σ H Q I q => h.run pins s σ H Q I (k σ H Q q)⟩
theorem _root_.L2.PW.imp {X : Cx} {e : Expr} {t t' : TT} (h : PW X e t) (k : ∀ σ H Q, t' σ H Q → t σ H Q) : PW X e t' := ⟨fun wh pins s σ H Q I q => h.run wh pins s σ H Q I (k σ H Q q)⟩
theorem _root_.L2.PA.imp {X : Cx} {e : List Expr} {t t' : TA} (h : PA X e t) (k : ∀ σ H Q, t' σ H Q → t σ H Q) : PA X e t' := ⟨fun pos pins s σ H Q I q => h.run pos pins s σ H Q I (k σ H Q q)⟩
theorem _root_.L2.PK.imp {X : Cx} {e : List Keyword} {t t' : TA} (h : PK X e t) (k : ∀ σ H Q, t' σ H Q → t σ H Q) : PK X e t' := ⟨fun pos pins s σ H Q I q => h.run pos pins s σ H Q I (k σ H Q q)⟩
theorem _root_.L2.PS.imp {X : Cx} {e : Stmt} {t t' : TS} (h : PS X e t) (k : ∀ Dn σ H, t' Dn σ H → t Dn σ H) : PS X e t' := ⟨fun pins s σ H Dn I q => h.run pins s σ H Dn I (k Dn σ H q)⟩
theorem _root_.L2.PSs.imp {X : Cx} {e : List Stmt} {t t' : TS} (h : PSs X e t) (k : ∀ Dn σ H, t' Dn σ H → t Dn σ H) : PSs X e t' := ⟨fun pins s σ H Dn I q => h.run pins s σ H Dn I (k Dn σ H q)⟩
end Mir

/-! Mir, expressions. -/
namespace Mir
open PySem PySem.Spec PyProof.Rows L2

/-! ### new tuples, told with their object -/
def NewT (xs : List V) (H : Hp) (Q : VK) : Prop := ∀ p o, H p = none → (o : Obj).dict = none ∧ o.cls = .type "tuple" → Q (.ref p) (upd H p (.frz o (.tup xs)))
def tTupF (t : TA) : TE := fun σ H Q => t σ H fun xs H1 => xs.length ≤ sizeLine ∧ NewT xs H1 Q
theorem pe_tupF {X : Cx} {es : List Expr} {t : TA} {x1 : Nat} {pos : Pos} (h : PA X es t) : PE X (.Tuple es x1 pos) (tTupF t) := by
  refine ⟨fun pins s σ H Q I hq => ?_⟩
  refine wpAny_Tuple_spliced (thn (h.run pos pins s σ H _ I hq) fun us s1 ⟨xs, H1, I1, r, z, q⟩ => ⟨by rw [← r.length]; exact z, ?_⟩)
  have hf : H1 s1.heap.objs.size = none := I1.hok.fresh (Nat.le_refl _)
  refine ⟨.ref s1.heap.objs.size, _, I1.laid (o := .frz { cls := .type "tuple", data := .seq us.toArray } (.tup xs)) (t' := s1.toks) (fun b u e => Heap.get?_push_of_some _ e) (Nat.le_refl _) ?_, rfl, q _ _ hf ⟨rfl, rfl⟩⟩
  exact ⟨Heap.get?_push_size _ rfl, z, us, r, ⟨_, Heap.get?_push_size _ rfl, rfl, _, rfl⟩⟩
section
variable {X : Cx}
theorem op_catF : OpR X (binaryOp .Add) (fun x y H Q => ∃ a b xs ys, x = .ref a ∧ y = .ref b ∧ SqT X.K H a xs ∧ SqT X.K H b ys ∧ xs.length + ys.length ≤ sizeLine ∧ (xs = [] → Q (.ref b) H) ∧ (xs ≠ [] → ys = [] → Q (.ref a) H) ∧ (xs ≠ [] → ys ≠ [] → NewT (xs ++ ys) H Q)) := by
  intro pins s σ H x y v u Q I rx ry h
  obtain ⟨a, b, xs, ys, rfl, rfl, ha, hb, hz, q0, q1, q2⟩ := h
  cases rx
  cases ry
  obtain ⟨its, r1, p1, _⟩ := I.tuple ha
  obtain ⟨its2, r2, p2, _⟩ := I.tuple hb
  by_cases hx : xs = []
  · subst hx
    cases r1
    exact cat_tup0 p1 p2 ⟨.ref b, H, I, rfl, q0 rfl⟩
  · refine HT.cat_tup p1 p2 (fun z => hx (r1.nil_iff.mp z)) (fun z => ⟨.ref a, H, I, rfl, q1 hx (r2.nil_iff.mp z)⟩) (fun z => ?_) (by rw [← r1.length, ← r2.length]; exact hz)
    refine ⟨.ref s.heap.objs.size, _, I.laid (t' := s.toks) (o := .frz { cls := .type "tuple", data := .seq (its ++ its2).toArray } (.tup (xs ++ ys))) (fun b ob q => Heap.get?_push_of_some _ q) (Nat.le_refl _) ?_, rfl, q2 hx (fun w => z (r2.nil_iff.mpr w)) _ _ (I.hok.fresh (Nat.le_refl _)) ⟨rfl, rfl⟩⟩
    exact ⟨Heap.get?_push_size _ rfl, by rw [List.length_append]; exact hz, _, r1.append r2, IsTup.new _ _⟩
theorem sl_tupF : SlR X (fun x lo hi H Q => ∃ a xs, x = .ref a ∧ SqT X.K H a xs ∧ (HT.sIx xs.length 0 lo = 0 ∧ HT.sIx xs.length xs.length hi = xs.length → Q (.ref a) H) ∧ (¬ (HT.sIx xs.length 0 lo = 0 ∧ HT.sIx xs.length xs.length hi = xs.length) → NewT (cutV xs lo hi) H Q)) := by
  intro pins s σ H x v vl vu lo hi sl Q I rx hs pl pu h
  obtain ⟨a, xs, rfl, hx, q1, q2⟩ := h
  cases rx
  obtain ⟨its, r, ht, hz⟩ := I.tuple hx
  have hlen : its.toArray.size = xs.length := by rw [List.size_toArray]; exact r.length.symm
  refine ⟨"tuple", _, PyProof.Rows.slot_tuple_getitem.lookup, ht.typeIs, ?_⟩
  by_cases hw : HT.sIx xs.length 0 lo = 0 ∧ HT.sIx xs.length xs.length hi = xs.length
  · exact getItem_tuple_whole ht hs pl pu (by rw [hlen]; exact hw) ⟨.ref a, H, I, rfl, q1 hw⟩
  · refine HT.getItem_tuple_cut ht hs pl pu (by rw [hlen]; exact hw) ?_ (by rw [hlen]; exact hz)
    rw [hlen]
    refine ⟨.ref s.heap.objs.size, _, I.laid (t' := s.toks) (o := .frz { cls := .type "tuple", data := .seq ((its.drop (HT.sIx xs.length 0 lo)).take (HT.sIx xs.length xs.length hi - HT.sIx xs.length 0 lo)).toArray } (.tup (cutV xs lo hi))) (fun b ob q => Heap.get?_push_of_some _ q) (Nat.le_refl _) ?_, rfl, q2 hw _ _ (I.hok.fresh (Nat.le_refl _)) ⟨rfl, rfl⟩⟩
    exact ⟨Heap.get?_push_size _ rfl, Nat.le_trans (cutV_length xs lo hi) hz, _, (r.drop (HT.sIx xs.length 0 lo)).take (HT.sIx xs.length xs.length hi - HT.sIx xs.length 0 lo), IsTup.new _ _⟩
theorem call_tupleF : CallR X (.type "tuple") (fun xs H Q => ∃ p ys, xs = [.ref p] ∧ ((SqL X.K H p ys ∧ NewT ys H Q) ∨ (SqT X.K H p ys ∧ Q (.ref p) H))) := by
  intro pins s σ H xs us Q I r h
  obtain ⟨p, ys, rfl, h⟩ := h
  obtain ⟨u, rfl, rx⟩ := vals1 r
  cases rx
  rcases h with ⟨hq, q⟩ | ⟨hq, q⟩
  · obtain ⟨its, r', pl, hz⟩ := I.list hq
    have hlen := r'.length
    refine call_tuple_list pl.isList (fun h' kp => ?_) (by simp only [List.size_toArray] <;> omega)
    have I1 : Inv X pins σ H { s with heap := h' } := I.kept (t' := s.toks) kp
    have I2 : Inv X pins σ (upd H h'.objs.size (.frz { cls := .type "tuple", data := .seq its.toArray } (.tup ys))) { s with heap := h'.push { cls := .type "tuple", data := .seq its.toArray } } :=
      I1.laid (t' := s.toks) (fun b o e => Heap.get?_push_of_some _ e) (Nat.le_refl _) (show ObjOk X.prog X.w _ _ _ (.frz _ (.tup ys)) from ⟨Heap.get?_push_size _ rfl, hz, its, r', IsTup.new _ _⟩)
    exact ⟨.ref h'.objs.size, _, I2, rfl, q _ _ (I1.hok.fresh (Nat.le_refl _)) ⟨rfl, rfl⟩⟩
  · obtain ⟨its, r', pl, hz⟩ := I.tuple hq
    exact call_tuple_same pl ⟨.ref p, H, I, rfl, q⟩
end
abbrev EM := Env' → Mem → R D
abbrev TM := Env' → Mem → R Bool
abbrev AM := Env' → Mem → R (List D)
abbrev OM := Env' → Mem → R (Option Int)

/-! ### mirrors -/
def mVar (i : Nat) : EM := fun η m => match η[i]? with
  | some (some d) => .ok d m
  | _ => .stk
def mC (d : D) : EM := fun _ m => .ok d m
def mOp (g : D → D → Mem → R D) (a b : EM) : EM := fun η m => (a η m).bind fun x m1 => (b η m1).bind fun y m2 => g x y m2
def mUn (g : D → Mem → R D) (a : EM) : EM := fun η m => (a η m).bind fun x m1 => g x m1
def toB : D → Mem → R Bool
  | .bl b, m => .ok b m
  | _, _ => .stk
def mTest (a : EM) : TM := fun η m => (a η m).bind toB
def mAnd (a b : TM) : TM := fun η m => (a η m).bind fun x m1 => if x = true then b η m1 else .ok false m1
def mOr (a b : TM) : TM := fun η m => (a η m).bind fun x m1 => if x = true then .ok true m1 else b η m1
def mNot (a : TM) : TM := fun η m => (a η m).bind fun x m1 => .ok (!x) m1
def mNotV (a : EM) : EM := fun η m => (a η m).bind fun x m1 => (toB x m1).bind fun k m2 => .ok (.bl (!k)) m2
def mIf (c : TM) (a b : EM) : EM := fun η m => (c η m).bind fun k m1 => if k = true then a η m1 else b η m1
def mNil : AM := fun _ m => .ok [] m
def mCons (a : EM) (b : AM) : AM := fun η m => (a η m).bind fun x m1 => (b η m1).bind fun xs m2 => .ok (x :: xs) m2
def mTup (a : AM) : EM := fun η m => (a η m).bind fun xs m1 => if xs.length ≤ sizeLine then .ok (.tup xs) m1 else .stk
def mLst (al : Bool) (a : AM) : EM := fun η m => (a η m).bind fun xs m1 => if xs.length ≤ sizeLine then mkL al xs m1 else .stk
def mCB (g : List D → Mem → R D) (a : AM) : EM := fun η m => (a η m).bind fun xs m1 => g xs m1
def mNoPart : OM := fun _ m => .ok none m
def mPart (a : EM) : OM := fun η m => (a η m).bind fun x m1 => match x with
  | .int i => .ok (some i) m1
  | _ => .stk
def mSl (g : D → Option Int → Option Int → Mem → R D) (a : EM) (lo hi : OM) : EM := fun η m => (a η m).bind fun x m1 => (lo η m1).bind fun l m2 => (hi η m2).bind fun u m3 => g x l u m3

section
variable {X : Cx} {E : XK} {a b c e : Expr} {ca cb cc : EM} {pos : Pos}
abbrev MEx (X : Cx) (E : XK) (e : Expr) (c : EM) : Prop := PE X e (rdE X.K X.mg E c)
abbrev MT (X : Cx) (E : XK) (e : Expr) (c : TM) : Prop := PT X e (rdT X.K X.mg E c)
abbrev MW (X : Cx) (E : XK) (e : Expr) (c : TM) : Prop := PW X e (rdT X.K X.mg E c)
abbrev MA (X : Cx) (E : XK) (e : List Expr) (c : AM) : Prop := PA X e (rdA X.K X.mg E c)
abbrev MO (X : Cx) (E : XK) (e : Option Expr) (c : OM) : Prop := PO X e (rd X.K X.mg E Same' c)

theorem me_var {i : Nat} (h : PE X e (tVar i)) : MEx X E e (mVar i) := h.imp fun σ H Q ⟨W, η, m, s, n, p⟩ => by
  unfold mVar at p
  cases hi : η[i]? with
  | none => rw [hi] at p; exact p.elim
  | some o =>
    cases o with
    | none => rw [hi] at p; exact p.elim
    | some d =>
      rw [hi] at p
      obtain ⟨v, e1, e2⟩ := n.2 i d hi
      exact ⟨v, e1, p.now s e2⟩
/-- the name in slot i -/
theorem mv (i : Nat) {x : Str} {pos : Pos} (hN : X.N[i]? = some x := by rfl) (hv : Vis X.env.scope x := by first | exact Or.inl rfl | exact Or.inr (Or.inl rfl) | exact Or.inr (Or.inr rfl)) (hd : (x == ("__debug__" : Str)) = false := by decide)
    (hcd : (x == ("__classdict__" : Str)) = false := by decide) : MEx X E (.Name x pos) (mVar i) := me_var (pe_var hN hv hd hcd)
theorem me_c {v : V} {d : D} (h : PE X e (tC v)) (hd : ∀ W H, Rep X.K W H d v) : MEx X E e (mC d) := h.imp fun σ H Q ⟨W, η, m, s, n, p⟩ => p.now s (hd W H)
theorem me_int {i j pos} : MEx X E (.Constant (.int i) j pos) (mC (.int i)) := me_c pe_int fun _ _ => rep_int
theorem me_bl {b j pos} : MEx X E (.Constant (.bool b) j pos) (mC (.bl b)) := me_c pe_bl fun _ _ => rep_bl
theorem me_non {j pos} : MEx X E (.Constant .none j pos) (mC .non) := me_c pe_non fun _ _ => rep_non
theorem me_str {x j pos} : MEx X E (.Constant (.str x) j pos) (mC (.str x)) := me_c pe_str fun _ _ => rep_str
/-- a constant of the module -/
structure GlobD (K : PySem.W.Frag) (mg : Str → Option Value) (x : Str) (d : D) : Prop where
  ex : ∃ u v, mg x = some u ∧ RelV v u ∧ ∀ W H, Rep K W H d v
/-- operations on values, by their mirrors -/
def rM (K : PySem.W.Frag) (mg : Str → Option Value) (E : XK) (g : D → D → Mem → R D) : R2 := fun x y H Q => ∃ W m d e, Sim K mg W H m ∧ Rep K W H d x ∧ Rep K W H e y ∧ Post K mg E (Rep K) W H Q (g d e m)
abbrev OpM (X : Cx) (E : XK) (f : Value → Value → Sem Value) (g : D → D → Mem → R D) : Prop := OpR X f (rM X.K X.mg E g)
def rU1 (K : PySem.W.Frag) (mg : Str → Option Value) (E : XK) (g : D → Mem → R D) : V → Hp → VK → Prop := fun x H Q => ∃ W m d, Sim K mg W H m ∧ Rep K W H d x ∧ Post K mg E (Rep K) W H Q (g d m)
theorem two {g : D → D → Mem → R D} {σ : SL} {H : Hp} {Q : VK} (h : rdE X.K X.mg E (mOp g ca cb) σ H Q) : tOp (rM X.K X.mg E g) (rdE X.K X.mg E ca) (rdE X.K X.mg E cb) σ H Q := by
  obtain ⟨W, η, m, s, n, p⟩ := h
  refine ⟨W, η, m, s, n, (Post.bind (Rl := Rep X.K) p).imp fun x H1 ⟨W1, d, m1, e1, s1, r1, p1⟩ => ?_⟩
  refine ⟨W1, η, m1, s1, n.ext e1, (Post.bind (Rl := Rep X.K) p1).imp fun y H2 ⟨W2, d2, m2, e2, s2, r2, p2⟩ => ?_⟩
  exact ⟨W2, m2, d, d2, s2, r1.ext e2, r2, p2⟩
theorem me_op {op : Operator} {g : D → D → Mem → R D} (ho : OpM X E (binaryOp op) g) (ha : MEx X E a ca) (hb : MEx X E b cb) : MEx X E (.BinOp a op b pos) (mOp g ca cb) := (pe_op ho ha hb).imp fun _ _ _ h => two h
theorem me_un {op : UnaryOp} {g : D → Mem → R D} (ho : UnR X (unaryOp op) (rU1 X.K X.mg E g)) (ha : MEx X E a ca) : MEx X E (.UnaryOp op a pos) (mUn g ca) := (pe_un ho ha).imp fun σ H Q ⟨W, η, m, s, n, p⟩ =>
  ⟨W, η, m, s, n, (Post.bind (Rl := Rep X.K) p).imp fun x H1 ⟨W1, d, m1, e1, s1, r1, p1⟩ => ⟨W1, m1, d, s1, r1, p1⟩⟩
theorem me_cmp {op : CmpOp} {g : D → D → Mem → R D} (ho : OpM X E (compareOp op) g) (ha : MEx X E a ca) (hb : MEx X E b cb) (hm : behindInMarks op b = false) : MEx X E (.Compare a [op] [b] pos) (mOp g ca cb) := (pe_cmpR ho ha hb hm).imp fun _ _ _ h => two h
theorem toB_post {W : Wd} {H : Hp} {d : D} {m : Mem} {x : V} {Q : Bool → Hp → Prop} (s : Sim X.K X.mg W H m) (r : Rep X.K W H d x) (p : Post X.K X.mg E Same' W H Q (toB d m)) : ∃ k, x = .bl k ∧ Q k H := by
  cases d with
  | bl b => exact ⟨b, r.bl', p.now s rfl⟩
  | _ => exact p.elim
theorem test_of {c : EM} {t : TE} {σ : SL} {H : Hp} {Q : Bool → Hp → Prop} (ht : ∀ Q, rdE X.K X.mg E c σ H Q → t σ H Q) (h : rdT X.K X.mg E (mTest c) σ H Q) : tTest t σ H Q := by
  obtain ⟨W, η, m, s, n, p⟩ := h
  refine ht _ ⟨W, η, m, s, n, (Post.bind (Rl := Rep X.K) p).imp fun x H1 ⟨W1, d, m1, e1, s1, r1, p1⟩ => ?_⟩
  obtain ⟨k, e, q⟩ := toB_post s1 r1 p1
  exact ⟨k, e, q⟩
theorem mt_cmp {op : CmpOp} {g : D → D → Mem → R D} (ho : OpM X E (compareOp op) g) (ha : MEx X E a ca) (hb : MEx X E b cb) (hm : behindInMarks op b = false) : MT X E (.Compare a [op] [b] pos) (mTest (mOp g ca cb)) := (pt_cmpR ho ha hb hm).imp fun _ _ _ h => test_of (fun _ h => two h) h
/-! ### truth -/
def truD (m : Mem) : D → Option Bool
  | .non => some false
  | .bl b => some b
  | .int i => some (i != 0)
  | .str x => if x.length ≤ sizeLine then some ((x.length : Int) != 0) else none
  | .tup ds => some (!ds.isEmpty)
  | .lst ds => some (!ds.isEmpty)
  | .scr ds => some (!ds.isEmpty)
  | .ref i => match m[i]? with
    | some (.lst ds) => some (!ds.isEmpty)
    | some (.dK kvs) => some (!kvs.isEmpty)
    | _ => none
def mTru (a : EM) : TM := fun η m => (a η m).bind fun x m1 => match truD m1 x with
  | some b => .ok b m1
  | none => .stk
theorem reps_empty {W : Wd} {H : Hp} {ds : List D} {vs : List V} (r : Reps X.K W H ds vs) : (!ds.isEmpty) = !vs.isEmpty := by
  cases ds with
  | nil => rw [r.nil']; rfl
  | cons d ds => obtain ⟨v, r', rfl, _, _⟩ := r.cons'; rfl
theorem tru_of {W : Wd} {H : Hp} {m : Mem} {d : D} {v : V} {k : Bool} (s : Sim X.K X.mg W H m) (r : Rep X.K W H d v) (h : truD m d = some k) : TruV X.K v H k := by
  cases d with
  | non => rw [r.non']; cases h; rfl
  | bl b => rw [r.bl']; cases h; rfl
  | int i => rw [r.int']; cases h; rfl
  | str x =>
    rw [r.str']
    unfold truD at h
    by_cases q : x.length ≤ sizeLine
    · simp only [q, if_true] at h
      cases h
      exact ⟨q, rfl⟩
    · simp only [q, if_false] at h
      cases h
  | tup ds =>
    obtain ⟨a, vs, rfl, e2, e3⟩ := r.tup'
    cases h
    exact .inr (.inl ⟨vs, e2, reps_empty e3⟩)
  | lst ds =>
    obtain ⟨a, vs, rfl, e2, e3⟩ := r.lst'
    cases h
    exact .inl ⟨vs, .inl (.inl e2.1), reps_empty e3⟩
  | scr ds =>
    obtain ⟨a, vs, rfl, e2, e3⟩ := r.scr'
    cases h
    exact .inl ⟨vs, e2.sq, reps_empty e3⟩
  | ref i =>
    obtain ⟨a, rfl, e2⟩ := r.ref'
    simp only [truD] at h
    cases hm : m[i]? with
    | none => rw [hm] at h; cases h
    | some c =>
      rw [hm] at h
      have q := s.cell i a c e2 hm
      cases c with
      | lst xs =>
        cases h
        obtain ⟨vs, q1, q2⟩ := q
        exact .inl ⟨vs, .inl (.inl q1), reps_empty q2⟩
      | dK kvs =>
        cases h
        obtain ⟨vs, q1, q2, q3⟩ := q
        refine .inr (.inr ⟨vs, q1, ?_⟩)
        have := congrArg List.length q2
        simp only [List.length_map] at this
        cases vs <;> cases kvs <;> simp_all
      | _ => cases h
theorem mt_tru (ha : MEx X E a ca) (he : ∀ whole, isTrue a X.env whole = (do let v ← whole; standAt a.pos; holding [v] (truthy v)) := by intro _; rfl) : MT X E a (mTru ca) := (pt_truth ha he).imp fun σ H Q ⟨W, η, m, s, n, p⟩ =>
  ⟨W, η, m, s, n, (Post.bind (Rl := Rep X.K) p).imp fun x H1 ⟨W1, d, m1, e1, s1, r1, p1⟩ => by
    cases h : truD m1 d with
    | none => rw [h] at p1; exact p1.elim
    | some k => rw [h] at p1; exact ⟨k, tru_of s1 r1 h, p1.now s1 rfl⟩⟩

/-! ### and, or, not, if -/
theorem mt_not {ta : TM} (ha : MT X E a ta) : MT X E (.UnaryOp .Not a pos) (mNot ta) := (pt_not ha).imp fun σ H Q ⟨W, η, m, s, n, p⟩ =>
  ⟨W, η, m, s, n, (Post.bind (Rl := Same') p).imp fun x H1 ⟨W1, d, m1, e1, s1, r1, p1⟩ => by
    cases (show d = x from r1)
    exact p1.now s1 rfl⟩
theorem mw_and1 {ta : TM} (ha : MT X E a ta) : MW X E (.BoolOp .And [a] pos) ta := pw_and1 ha
theorem mw_or1 {ta : TM} (ha : MT X E a ta) : MW X E (.BoolOp .Or [a] pos) ta := pw_or1 ha
theorem mw_and {ta tb : TM} {rest : List Expr} (ha : MT X E a ta) (hb : MW X E (.BoolOp .And (b :: rest) pos) tb) : MW X E (.BoolOp .And (a :: b :: rest) pos) (mAnd ta tb) := (pw_and ha hb).imp fun σ H Q ⟨W, η, m, s, n, p⟩ =>
  ⟨W, η, m, s, n, (Post.bind (Rl := Same') p).imp fun x H1 ⟨W1, d, m1, e1, s1, r1, p1⟩ => by
    cases (show d = x from r1)
    cases x with
    | true => rw [if_pos rfl] at p1 ⊢; exact ⟨W1, η, m1, s1, n.ext e1, p1⟩
    | false => rw [if_neg Bool.false_ne_true] at p1 ⊢; exact p1.now s1 rfl⟩
theorem mw_or {ta tb : TM} {rest : List Expr} (ha : MT X E a ta) (hb : MW X E (.BoolOp .Or (b :: rest) pos) tb) : MW X E (.BoolOp .Or (a :: b :: rest) pos) (mOr ta tb) := (pw_or ha hb).imp fun σ H Q ⟨W, η, m, s, n, p⟩ =>
  ⟨W, η, m, s, n, (Post.bind (Rl := Same') p).imp fun x H1 ⟨W1, d, m1, e1, s1, r1, p1⟩ => by
    cases (show d = x from r1)
    cases x with
    | true => rw [if_pos rfl] at p1 ⊢; exact p1.now s1 rfl
    | false => rw [if_neg Bool.false_ne_true] at p1 ⊢; exact ⟨W1, η, m1, s1, n.ext e1, p1⟩⟩
theorem me_not (ha : MEx X E a ca) : MEx X E (.UnaryOp .Not a pos) (mNotV ca) := (pe_not ha).imp fun σ H Q ⟨W, η, m, s, n, p⟩ =>
  ⟨W, η, m, s, n, (Post.bind (Rl := Rep X.K) p).imp fun x H1 ⟨W1, d, m1, e1, s1, r1, p1⟩ => by
    cases d with
    | bl k => exact ⟨k, r1.bl', Post.now p1 s1 rep_bl⟩
    | _ => exact p1.elim⟩
theorem me_if {t : Expr} {tc : TM} (hc : MT X E t tc) (ha : MEx X E a ca) (hb : MEx X E b cb) : MEx X E (.IfExp t a b pos) (mIf tc ca cb) := (pe_ifExp hc ha hb).imp fun σ H Q ⟨W, η, m, s, n, p⟩ =>
  ⟨W, η, m, s, n, (Post.bind (Rl := Same') p).imp fun x H1 ⟨W1, d, m1, e1, s1, r1, p1⟩ => by
    cases (show d = x from r1)
    cases x with
    | true => rw [if_pos rfl] at p1 ⊢; exact ⟨W1, η, m1, s1, n.ext e1, p1⟩
    | false => rw [if_neg Bool.false_ne_true] at p1 ⊢; exact ⟨W1, η, m1, s1, n.ext e1, p1⟩⟩

/-! ### arguments, displays -/
theorem ma_nil : MA X E [] mNil := pa_nil.imp fun σ H Q ⟨W, η, m, s, n, p⟩ => p.now s reps_nil
theorem cons_of {ta : AM} {σ : SL} {H : Hp} {Q : List V → Hp → Prop} (h : rdA X.K X.mg E (mCons ca ta) σ H Q) : tCons (rdE X.K X.mg E ca) (rdA X.K X.mg E ta) σ H Q := by
  obtain ⟨W, η, m, s, n, p⟩ := h
  refine ⟨W, η, m, s, n, (Post.bind (Rl := Rep X.K) p).imp fun x H1 ⟨W1, d, m1, e1, s1, r1, p1⟩ => ?_⟩
  refine ⟨W1, η, m1, s1, n.ext e1, (Post.bind (Rl := Reps X.K) p1).imp fun y H2 ⟨W2, d2, m2, e2, s2, r2, p2⟩ => ?_⟩
  exact p2.now s2 (reps_cons (r1.ext e2) r2)
theorem ma_cons {es : List Expr} {ta : AM} (ha : MEx X E a ca) (hr : MA X E es ta) (hs : starEach (a :: es) X.env = (false, eval a X.env) :: starEach es X.env := by rfl) : MA X E (a :: es) (mCons ca ta) := (pa_cons ha hr hs).imp fun _ _ _ h => cons_of h
theorem me_tup {es : List Expr} {ta : AM} {k : Nat} (h : MA X E es ta) : MEx X E (.Tuple es k pos) (mTup ta) := (pe_tupF h).imp fun σ H Q ⟨W, η, m, s, n, p⟩ =>
  ⟨W, η, m, s, n, (Post.bind (Rl := Reps X.K) p).imp fun x H1 ⟨W1, d, m1, e1, s1, r1, p1⟩ => by
    by_cases q : d.length ≤ sizeLine
    · rw [if_pos q] at p1
      exact ⟨by rw [r1.length]; exact q, fun pp oo hp ho => s1.newT hp ho r1 p1⟩
    · rw [if_neg q] at p1
      exact p1.elim⟩
theorem me_lst (al : Bool) {es : List Expr} {ta : AM} (h : MA X E es ta) : MEx X E (.List es pos) (mLst al ta) := (pe_lst h).imp fun σ H Q ⟨W, η, m, s, n, p⟩ =>
  ⟨W, η, m, s, n, (Post.bind (Rl := Reps X.K) p).imp fun x H1 ⟨W1, d, m1, e1, s1, r1, p1⟩ => by
    by_cases q : d.length ≤ sizeLine
    · rw [if_pos q] at p1
      exact ⟨by rw [r1.length]; exact q, fun pp hp => s1.newL hp r1 p1⟩
    · rw [if_neg q] at p1
      exact p1.elim⟩
/-- calls of built-ins on values -/
def rCM (K : PySem.W.Frag) (mg : Str → Option Value) (E : XK) (g : List D → Mem → R D) : List V → Hp → VK → Prop := fun xs H Q => ∃ W m ds, Sim K mg W H m ∧ Reps K W H ds xs ∧ Post K mg E (Rep K) W H Q (g ds m)
theorem cb_of {g : List D → Mem → R D} {ta : AM} {σ : SL} {H : Hp} {Q : VK} (h : rdE X.K X.mg E (mCB g ta) σ H Q) : tCB (rCM X.K X.mg E g) (rdA X.K X.mg E ta) σ H Q := by
  obtain ⟨W, η, m, s, n, p⟩ := h
  exact ⟨W, η, m, s, n, (Post.bind (Rl := Reps X.K) p).imp fun x H1 ⟨W1, d, m1, e1, s1, r1, p1⟩ => ⟨W1, m1, d, s1, r1, p1⟩⟩
section
variable {g : List D → Mem → R D} {x : Str} {p : Pos} {es : List Expr} {ta : AM} {id T : String}
theorem me_callB (hc : CallR X (.builtin id) (rCM X.K X.mg E g)) (hm : X.mg x = none) (hg : Gl X x) (hv : bootBuiltins x = some (.builtin id)) (ha : MA X E (e :: es) ta) (hn : x ≠ "__name__" := by decide) (hdb : (x == ("__debug__" : Str)) = false := by decide)
    (he : starEach (e :: es) X.env = (false, eval e X.env) :: starEach es X.env := by rfl) (hpl : (backTo pos (starEach es X.env)).any (·.1) = false := by rfl) : MEx X E (.Call (.Name x p) (e :: es) [] pos) (mCB g ta) := (pe_callB hc hg hm hv ha hn hdb he hpl).imp fun _ _ _ h => cb_of h
theorem me_callTy (hc : CallR X (.type T) (rCM X.K X.mg E g)) (hm : X.mg x = none) (hg : Gl X x) (hv : bootBuiltins x = some (.type T)) (ha : MA X E (e :: es) ta) (hn : x ≠ "__name__" := by decide) (hdb : (x == ("__debug__" : Str)) = false := by decide)
    (he : starEach (e :: es) X.env = (false, eval e X.env) :: starEach es X.env := by rfl) (hpl : (backTo pos (starEach es X.env)).any (·.1) = false := by rfl) : MEx X E (.Call (.Name x p) (e :: es) [] pos) (mCB g ta) := (pe_callTy hc hg hm hv ha hn hdb he hpl).imp fun _ _ _ h => cb_of h
end
/-! ### subscripts -/
theorem me_ix {g : D → D → Mem → R D} (hr : IxR X (rM X.K X.mg E g)) (ha : MEx X E a ca) (hb : MEx X E b cb) (hs : PlainIx b) : MEx X E (.Subscript a b pos) (mOp g ca cb) := (pe_ix hr ha hb hs).imp fun _ _ _ h => two h
theorem mo_none : MO X E none mNoPart := ⟨fun pins s σ H Q I h => po_none.run pins s σ H Q I (by
  obtain ⟨W, η, m, s, n, p⟩ := h
  exact p.now s rfl)⟩
theorem mo_some (h : MEx X E a ca) : MO X E (some a) (mPart ca) := ⟨fun pins s σ H Q I h' => (po_some h).run pins s σ H Q I (by
  obtain ⟨W, η, m, s, n, p⟩ := h'
  refine ⟨W, η, m, s, n, (Post.bind (Rl := Rep X.K) p).imp fun x H1 ⟨W1, d, m1, e1, s1, r1, p1⟩ => ?_⟩
  cases d with
  | int i => exact ⟨i, r1.int', p1.now s1 rfl⟩
  | _ => exact p1.elim)⟩
def rSM (K : PySem.W.Frag) (mg : Str → Option Value) (E : XK) (g : D → Option Int → Option Int → Mem → R D) : V → Option Int → Option Int → Hp → VK → Prop := fun x lo hi H Q => ∃ W m d, Sim K mg W H m ∧ Rep K W H d x ∧ Post K mg E (Rep K) W H Q (g d lo hi m)
theorem me_sl {g : D → Option Int → Option Int → Mem → R D} {lo hi : Option Expr} {tl th : OM} {p2 : Pos} (hr : SlR X (rSM X.K X.mg E g)) (he : MEx X E a ca) (hl : MO X E lo tl) (hu : MO X E hi th) : MEx X E (.Subscript a (.Slice lo hi none p2) pos) (mSl g ca tl th) :=
  (pe_slice hr he hl hu).imp fun σ H Q ⟨W, η, m, s, n, p⟩ => by
    refine ⟨W, η, m, s, n, (Post.bind (Rl := Rep X.K) p).imp fun x H1 ⟨W1, d, m1, e1, s1, r1, p1⟩ => ?_⟩
    refine ⟨W1, η, m1, s1, n.ext e1, (Post.bind (Rl := Same') p1).imp fun y H2 ⟨W2, d2, m2, e2, s2, r2, p2⟩ => ?_⟩
    cases (show d2 = y from r2)
    refine ⟨W2, η, m2, s2, (n.ext e1).ext e2, (Post.bind (Rl := Same') p2).imp fun z H3 ⟨W3, d3, m3, e3, s3, r3, p3⟩ => ?_⟩
    cases (show d3 = z from r3)
    exact ⟨W3, m3, d, s3, (r1.ext e2).ext e3, p3⟩
end
end Mir

/-! Mir, statements, loops, comprehensions, calls. -/
namespace Mir
open PySem PySem.Spec PyProof.Rows L2

/-! ### from one heap to another -/
structure Tr (K : PySem.W.Frag) (W : Wd) (H : Hp) (W' : Wd) (H' : Hp) : Prop where
  rf : ∀ (i : Nat) (a : Addr), W.i[i]? = some a → W'.i[i]? = some a
  tp : ∀ a vs, SqF K H a vs → SqF K H' a vs
  ls : ∀ a (o : HO), (H a = some o ∧ a ∉ W.i ∧ a ∉ W.z) → (H' a = some o ∧ a ∉ W'.i ∧ a ∉ W'.z)
  sc : ∀ a vs, LIm K W H a vs → LIm K W' H' a vs
mutual
theorem Rep.tr {K : PySem.W.Frag} {W W' : Wd} {H H' : Hp} (e : Tr K W H W' H') : ∀ {d : D} {v : V}, Rep K W H d v → Rep K W' H' d v
  | .non, v, h => by unfold Rep at h ⊢; exact h
  | .bl b, v, h => by unfold Rep at h ⊢; exact h
  | .int i, v, h => by unfold Rep at h ⊢; exact h
  | .str x, v, h => by unfold Rep at h ⊢; exact h
  | .tup ds, v, h => by
    unfold Rep at h ⊢
    obtain ⟨a, vs, e1, e2, e3⟩ := h
    exact ⟨a, vs, e1, e.tp _ _ e2, Reps.tr e e3⟩
  | .lst ds, v, h => by
    unfold Rep at h ⊢
    obtain ⟨a, vs, e1, e2, e3⟩ := h
    exact ⟨a, vs, e1, e.ls _ _ e2, Reps.tr e e3⟩
  | .scr ds, v, h => by
    unfold Rep at h ⊢
    obtain ⟨a, vs, e1, e2, e3⟩ := h
    exact ⟨a, vs, e1, e.sc _ _ e2, Reps.tr e e3⟩
  | .ref i, v, h => by
    unfold Rep at h ⊢
    obtain ⟨a, e1, e2⟩ := h
    exact ⟨a, e1, e.rf _ _ e2⟩
theorem Reps.tr {K : PySem.W.Frag} {W W' : Wd} {H H' : Hp} (e : Tr K W H W' H') : ∀ {ds : List D} {vs : List V}, Reps K W H ds vs → Reps K W' H' ds vs
  | [], vs, h => by unfold Reps at h ⊢; exact h
  | d :: ds, vs, h => by
    unfold Reps at h ⊢
    obtain ⟨v, r, e1, e2, e3⟩ := h
    exact ⟨v, r, e1, Rep.tr e e2, Reps.tr e e3⟩
end
/-- more scratch addresses may be there -/
structure ExtZ (W : Wd) (H : Hp) (W' : Wd) (H' : Hp) : Prop where
  z : ∀ p ∈ W'.z, p ∉ W.z → H p = none
  zs : ∀ p ∈ W.z, p ∈ W'.z
  pre : ∃ t, W'.i = W.i ++ t
  new : ∀ a ∈ W'.i, a ∉ W.i → H a = none
  keep : ∀ a o, H a = some o → (immut o = true ∨ a ∉ W.i) → H' a = some o
theorem Ext.toZ {W W' : Wd} {H H' : Hp} (e : Ext W H W' H') : ExtZ W H W' H' := ⟨fun p hp hn => absurd (e.z ▸ hp) hn, fun p hp => e.z ▸ hp, e.pre, fun a h n => (e.new a h n).1, e.keep⟩
theorem ExtZ.trans {W W1 W2 : Wd} {H H1 H2 : Hp} (a : ExtZ W H W1 H1) (b : Ext W1 H1 W2 H2) : ExtZ W H W2 H2 := by
  obtain ⟨t1, e1⟩ := a.pre
  obtain ⟨t2, e2⟩ := b.pre
  refine ⟨fun p hp hn => a.z p (b.z ▸ hp) hn, fun p hp => b.z ▸ a.zs p hp, ⟨t1 ++ t2, by rw [e2, e1, List.append_assoc]⟩, fun x hx hn => ?_, fun x o h k => ?_⟩
  · by_cases h1 : x ∈ W1.i
    · exact a.new x h1 hn
    · have q := b.new x hx h1
      cases hh : H x with
      | none => rfl
      | some o =>
        have hz : x ∉ W.z := fun hz => q.2 (a.zs x hz)
        have := a.keep x o hh (.inr hn)
        rw [q.1] at this
        cases this
  · have h1 := a.keep x o h k
    refine b.keep x o h1 ?_
    rcases k with k | k1
    · exact .inl k
    · refine .inr fun hx => ?_
      have := a.new x hx k1
      rw [this] at h
      cases h
theorem ExtZ.tr {K : PySem.W.Frag} {W W' : Wd} {H H' : Hp} (e : ExtZ W H W' H') : Tr K W H W' H' := by
  have nn : ∀ a o, H a = some o → a ∉ W.i → a ∉ W.z → a ∉ W'.i ∧ a ∉ W'.z := fun a o h k1 k2 => by
    refine ⟨fun hx => ?_, fun hx => ?_⟩
    · have := e.new a hx k1
      rw [h] at this
      cases this
    · have := e.z a hx k2
      rw [h] at this
      cases this
  refine ⟨fun i a h => ?_, fun a vs h => ?_, fun a vs ⟨h, k1, k2⟩ => ⟨e.keep a _ h (.inr k1), nn a _ h k1 k2⟩, fun a vs h => ?_⟩
  · obtain ⟨t, et⟩ := e.pre
    rw [et, List.getElem?_append_left (List.getElem?_eq_some_iff.mp h).1]
    exact h
  · rcases h with ⟨o, h, k⟩ | h
    · exact .inl ⟨o, e.keep _ _ h (.inl rfl), k⟩
    · exact .inr h
  · rcases h with ⟨h | ⟨o, h⟩, k1, k2⟩ | h
    · exact .inl ⟨.inl (e.keep a _ h (.inr k1)), nn a _ h k1 k2⟩
    · exact .inl ⟨.inr ⟨o, e.keep a _ h (.inl rfl)⟩, nn a _ h k1 k2⟩
    · exact .inr h
theorem Rep.extZ {K : PySem.W.Frag} {W W' : Wd} {H H' : Hp} {d : D} {v : V} (e : ExtZ W H W' H') (h : Rep K W H d v) : Rep K W' H' d v := Rep.tr e.tr h
theorem Reps.extZ {K : PySem.W.Frag} {W W' : Wd} {H H' : Hp} {d : List D} {v : List V} (e : ExtZ W H W' H') (h : Reps K W H d v) : Reps K W' H' d v := Reps.tr e.tr h

abbrev RX := PySem.W.Frag → Wd → Hp → D → V → Prop

/-! ### statements -/
inductive RS where
  | nxt (η : Env') (m : Mem) | ret (d : D) (m : Mem) | brk (η : Env') (m : Mem) | cnt (η : Env') (m : Mem) | exc (x : Exn) (m : Mem) | stk
abbrev SM := Env' → Mem → RS
abbrev GM := D → Env' → Mem → R Env'
def R.toS {α : Type} (r : R α) (f : α → Mem → RS) : RS := match r with
  | .ok a m => f a m
  | .exc x m => .exc x m
  | .stk => .stk
@[simp] theorem toS_ok {α : Type} (a : α) (m : Mem) (f : α → Mem → RS) : (R.ok a m).toS f = f a m := nr rfl
@[simp] theorem toS_exc {α : Type} (x : Exn) (m : Mem) (f : α → Mem → RS) : (R.exc x m : R α).toS f = .exc x m := nr rfl
@[simp] theorem toS_stk {α : Type} (f : α → Mem → RS) : (R.stk : R α).toS f = .stk := nr rfl
section
variable (K : PySem.W.Frag) (mg : Str → Option Value) (E : XK)
def PostS (W : Wd) (H : Hp) (Dn : Ends) : RS → Prop
  | .nxt η m => ∀ σ W' H', Ext W H W' H' → Sim K mg W' H' m → REnv K W' H' η σ → Dn.nx σ H'
  | .ret d m => ∀ v W' H', Ext W H W' H' → Sim K mg W' H' m → Rep K W' H' d v → Dn.rt v H'
  | .brk η m => ∀ σ W' H', Ext W H W' H' → Sim K mg W' H' m → REnv K W' H' η σ → Dn.bk σ H'
  | .cnt η m => ∀ σ W' H', Ext W H W' H' → Sim K mg W' H' m → REnv K W' H' η σ → Dn.ct σ H'
  | .exc x m => ∀ c o W' H', Ext W H W' H' → Sim K mg W' H' m → ExR K mg x W' H' c o → E c o H'
  | .stk => False
def rdS (c : SM) : TS := fun Dn σ H => ∃ W η m, Sim K mg W H m ∧ REnv K W H η σ ∧ PostS K mg E W H Dn (c η m)
/-- a target; only the slots vs change -/
def rdG (Rx : RX) (vs : List Nat) (g : GM) : TG := fun v σ H Q => ∃ W η m d, Sim K mg W H m ∧ REnv K W H η σ ∧ Rx K W H d v ∧ Post K mg E (fun W H η' σ' => REnv K W H η' σ' ∧ wipe σ' vs = wipe σ vs) W H Q (g d η m)
end
section
variable {K : PySem.W.Frag} {mg : Str → Option Value} {E : XK} {W W' : Wd} {H H' : Hp} {Dn : Ends}
theorem PostS.ext {r : RS} (e : Ext W H W' H') (h : PostS K mg E W H Dn r) : PostS K mg E W' H' Dn r := by
  cases r with
  | nxt η m => exact fun σ W2 H2 e2 s q => h σ W2 H2 (e.trans e2) s q
  | ret d m => exact fun σ W2 H2 e2 s q => h σ W2 H2 (e.trans e2) s q
  | brk η m => exact fun σ W2 H2 e2 s q => h σ W2 H2 (e.trans e2) s q
  | cnt η m => exact fun σ W2 H2 e2 s q => h σ W2 H2 (e.trans e2) s q
  | exc x m => exact fun c o W2 H2 e2 s q => h c o W2 H2 (e.trans e2) s q
  | stk => exact h
theorem PostS.bind {α β : Type} {Rl : Wd → Hp → α → β → Prop} {r : R α} {f : α → Mem → RS} (h : PostS K mg E W H Dn (r.toS f)) :
    Post K mg E Rl W H (fun b H1 => ∃ W1 a m1, Ext W H W1 H1 ∧ Sim K mg W1 H1 m1 ∧ Rl W1 H1 a b ∧ PostS K mg E W1 H1 Dn (f a m1)) r := by
  cases r with
  | ok a m => exact fun b W2 H2 e2 s q => ⟨W2, a, m, e2, s, q, PostS.ext e2 h⟩
  | exc x m => exact h
  | stk => exact h
end
def mSkip : SM := fun η m => .nxt η m
def RS.seq (r : RS) (f : SM) : RS := match r with
  | .nxt η m => f η m
  | r => r
@[simp] theorem seq_nxt (η : Env') (m : Mem) (f : SM) : (RS.nxt η m).seq f = f η m := nr rfl
@[simp] theorem seq_ret (d : D) (m : Mem) (f : SM) : (RS.ret d m).seq f = .ret d m := nr rfl
@[simp] theorem seq_brk (η : Env') (m : Mem) (f : SM) : (RS.brk η m).seq f = .brk η m := nr rfl
@[simp] theorem seq_cnt (η : Env') (m : Mem) (f : SM) : (RS.cnt η m).seq f = .cnt η m := nr rfl
@[simp] theorem seq_exc (x : Exn) (m : Mem) (f : SM) : (RS.exc x m).seq f = .exc x m := nr rfl
@[simp] theorem seq_stk (f : SM) : RS.stk.seq f = .stk := nr rfl
def mSeq (a b : SM) : SM := fun η m => (a η m).seq b
def mRet (c : EM) : SM := fun η m => (c η m).toS fun d m1 => .ret d m1
def mIfS (c : TM) (a b : SM) : SM := fun η m => (c η m).toS fun k m1 => if k = true then a η m1 else b η m1
def mAsg (c : EM) (g : GM) : SM := fun η m => (c η m).toS fun d m1 => (g d η m1).toS fun η' m2 => .nxt η' m2
def gNm (i : Nat) : GM := fun d η m => .ok (η.set i (some d)) m
section
variable {X : Cx} {E : XK} {pos : Pos} {e : Expr} {ce : EM}
abbrev MS (X : Cx) (E : XK) (st : Stmt) (c : SM) : Prop := PS X st (rdS X.K X.mg E c)
abbrev MSs (X : Cx) (E : XK) (st : List Stmt) (c : SM) : Prop := PSs X st (rdS X.K X.mg E c)
abbrev MG (X : Cx) (E : XK) (Rx : RX) (vs : List Nat) (tg : Expr) (g : GM) : Prop := PG X tg (rdG X.K X.mg E Rx vs g)
theorem mss_nil : MSs X E [] mSkip := pss_nil.imp fun Dn σ H ⟨W, η, m, s, n, p⟩ => p σ W H (Ext.refl W H) s n
theorem mss_cons {st : Stmt} {rest : List Stmt} {c1 c2 : SM} (h1 : MS X E st c1) (h2 : MSs X E rest c2) : MSs X E (st :: rest) (mSeq c1 c2) := (pss_cons h1 h2).imp fun Dn σ H ⟨W, η, m, s, n, p⟩ => by
  refine ⟨W, η, m, s, n, ?_⟩
  unfold mSeq at p
  cases h : c1 η m with
  | nxt η1 m1 => rw [h] at p; exact fun σ1 W1 H1 e1 s1 n1 => ⟨W1, η1, m1, s1, n1, PostS.ext e1 p⟩
  | ret d m1 => rw [h] at p; exact p
  | brk η1 m1 => rw [h] at p; exact p
  | cnt η1 m1 => rw [h] at p; exact p
  | exc x m1 => rw [h] at p; exact p
  | stk => rw [h] at p; exact p
theorem mss_one {st : Stmt} {c1 : SM} (h1 : MS X E st c1) : MSs X E [st] c1 := pss_one h1
theorem ms_ret (he : MEx X E e ce) : MS X E (.Return (some e) pos) (mRet ce) := (ps_ret he).imp fun Dn σ H ⟨W, η, m, s, n, p⟩ =>
  ⟨W, η, m, s, n, (PostS.bind (Rl := Rep X.K) p).imp fun x H1 ⟨W1, d, m1, e1, s1, r1, p1⟩ => p1 x W1 H1 (Ext.refl _ _) s1 r1⟩
theorem ms_if {c : Expr} {a b : List Stmt} {tc : TM} {ca cb : SM} (hc : MT X E c tc) (ha : MSs X E a ca) (hb : MSs X E b cb) : MS X E (.If c a b pos) (mIfS tc ca cb) := (ps_if hc ha hb).imp fun Dn σ H ⟨W, η, m, s, n, p⟩ =>
  ⟨W, η, m, s, n, (PostS.bind (Rl := Same') p).imp fun x H1 ⟨W1, d, m1, e1, s1, r1, p1⟩ => by
    cases (show d = x from r1)
    cases x with
    | true => rw [if_pos rfl] at p1 ⊢; exact ⟨W1, η, m1, s1, n.ext e1, p1⟩
    | false => rw [if_neg Bool.false_ne_true] at p1 ⊢; exact ⟨W1, η, m1, s1, n.ext e1, p1⟩⟩
/-! ### targets -/
theorem wipe_none {σ : SL} : ∀ {vs : List Nat} {i : Nat} {x : Option V}, i ∈ vs → wipe (σ.set i x) vs = wipe σ vs
  | v :: vs, i, x, h => by
    unfold wipe
    by_cases hi : i ∈ vs
    · rw [wipe_none hi]
    · have e : i = v := by
        rcases List.mem_cons.mp h with h | h
        · exact h
        · exact absurd h hi
      subst e
      rw [wipe_set hi]
      apply List.ext_getElem?
      intro j
      by_cases hj : i = j
      · subst hj
        by_cases hl : i < (wipe σ vs).length
        · rw [List.getElem?_set_self (by rw [List.length_set]; exact hl), List.getElem?_set_self hl]
        · rw [List.getElem?_eq_none (by rw [List.length_set, List.length_set]; omega), List.getElem?_eq_none (by rw [List.length_set]; omega)]
      · rw [List.getElem?_set_ne hj, List.getElem?_set_ne hj, List.getElem?_set_ne hj]
where
  wipe_set {σ : SL} : ∀ {vs : List Nat} {i : Nat} {x : Option V}, i ∉ vs → wipe (σ.set i x) vs = (wipe σ vs).set i x
    | [], i, x, h => rfl
    | v :: vs, i, x, h => by
      unfold wipe
      rw [wipe_set (fun q => h (List.mem_cons_of_mem _ q))]
      exact List.set_comm _ _ (fun e => h (by rw [e]; exact List.mem_cons_self))
theorem wipe_wipe' {σ : SL} : ∀ {us vs : List Nat}, (∀ u ∈ us, u ∈ vs) → wipe (wipe σ us) vs = wipe σ vs
  | [], vs, _ => rfl
  | u :: us, vs, h => by
    show wipe ((wipe σ us).set u none) vs = _
    rw [wipe_none (h u List.mem_cons_self), wipe_wipe' fun x hx => h x (List.mem_cons_of_mem _ hx)]
theorem wipe_wipe {σ : SL} {vs : List Nat} : wipe (wipe σ vs) vs = wipe σ vs := wipe_wipe' fun _ h => h
theorem mg_name {vs : List Nat} {i : Nat} {x : Str} (hv : i ∈ vs) (hN : X.N.Nodup) (hi : X.N[i]? = some x) (hx : Loc X.env.scope x) (hf : X.fn x = true ∨ X.env.scope.names.lookup x = some .local := by first | exact .inl rfl | exact .inr rfl | assumption) : MG X E Rep vs (.Name x pos) (gNm i) := by
  refine ⟨fun pins s σ H v u Q I r h => (pg_name hN hi hx hf).run pins s σ H v u Q I r ?_⟩
  obtain ⟨W, η, m, d, s, n, rp, p⟩ := h
  exact p.now s ⟨n.set rp, wipe_none hv⟩
theorem ms_asg {vs : List Nat} {tg : Expr} {g : GM} (he : MEx X E e ce) (hg : MG X E Rep vs tg g) (hs : swapsWithSole [tg] e pos.line X.env = pure false := by rfl) (hw : swappedStores [tg] e X.env = pure none := by rfl)
    (h1 : (assignEach [tg] X.env).map (·.2) = [assign tg X.env] := by rfl) : MS X E (.Assign [tg] e pos) (mAsg ce g) := (ps_asg he hg hs hw h1).imp fun Dn σ H ⟨W, η, m, s, n, p⟩ =>
  ⟨W, η, m, s, n, (PostS.bind (Rl := Rep X.K) p).imp fun x H1 ⟨W1, d, m1, e1, s1, r1, p1⟩ =>
    ⟨W1, η, m1, d, s1, n.ext e1, r1, (PostS.bind (Rl := fun W H η' σ' => REnv X.K W H η' σ' ∧ wipe σ' vs = wipe σ vs) p1).imp fun σ2 H2 ⟨W2, η2, m2, e2, s2, n2, p2⟩ => p2 σ2 W2 H2 (Ext.refl _ _) s2 n2.1⟩⟩
theorem ms_set {i : Nat} {x : Str} {pos' : Pos} (hN : X.N.Nodup) (hi : X.N[i]? = some x) (hx : Loc X.env.scope x) (he : MEx X E e ce) (hs : swapsWith e (some (.Name x pos')) pos.line X.env = pure false := by rfl) (hf : X.fn x = true ∨ X.env.scope.names.lookup x = some .local := by first | exact .inl rfl | exact .inr rfl | assumption) :
    MS X E (.Assign [.Name x pos'] e pos) (mAsg ce (gNm i)) := (ps_set hN hi hx he hs hf).imp fun Dn σ H ⟨W, η, m, s, n, p⟩ =>
  ⟨W, η, m, s, n, (PostS.bind (Rl := Rep X.K) p).imp fun x H1 ⟨W1, d, m1, e1, s1, r1, p1⟩ => p1 _ W1 H1 (Ext.refl _ _) s1 ((n.ext e1).set r1)⟩
end

/-! ### loops -/
abbrev Src := Nat → Mem → Option (Option D)
abbrev IM := Env' → Mem → R (Src × Nat)
structure JOk (K : PySem.W.Frag) (mg : Str → Option Value) (Rx : RX) (W₀ : Wd) (H₀ : Hp) (J : It) (src : Src) : Prop where
  go : ∀ W H m k d, ExtZ W₀ H₀ W H → Sim K mg W H m → src k m = some (some d) → J.go k H ∧ ∀ x H', J.yld k H x H' → ∃ W', Ext W H W' H' ∧ Sim K mg W' H' m ∧ Rx K W' H' d x
  stop : ∀ W H m k, ExtZ W₀ H₀ W H → Sim K mg W H m → src k m = some none → J.stop k H
def RlI (K : PySem.W.Frag) (mg : Str → Option Value) (Rx : RX) (W : Wd) (H : Hp) (p : Src × Nat) (J : It) : Prop := JOk K mg Rx W H J p.1
abbrev MI (X : Cx) (E : XK) (Rx : RX) (tg it : Expr) (c : IM) : Prop := PI X tg it (rd X.K X.mg E (RlI X.K X.mg Rx) c)
def mLoop (src : Src) (g : GM) (body : SM) : Nat → Nat → Env' → Mem → RS
  | 0, k, η, m => match src k m with
    | some none => .nxt η m
    | _ => .stk
  | f + 1, k, η, m => match src k m with
    | none => .stk
    | some none => .nxt η m
    | some (some d) => (g d η m).toS fun η1 m1 => match body η1 m1 with
      | .nxt η2 m2 => mLoop src g body f (k + 1) η2 m2
      | .cnt η2 m2 => mLoop src g body f (k + 1) η2 m2
      | .brk η2 m2 => .nxt η2 m2
      | r => r
def mFor (ci : IM) (g : GM) (body : SM) : SM := fun η m => (ci η m).toS fun p m1 => mLoop p.1 g body p.2 0 η m1
section
variable {X : Cx} {E : XK} {pos : Pos}
theorem ms_for {Rx : RX} {vs : List Nat} {tg it : Expr} {body : List Stmt} {ci : IM} {g : GM} {cb : SM} (hp : PassesOwn (model X.prog X.w) X.A X.env X.xe) (hc : X.calm = true) (hi : MI X E Rx tg it ci) (hg : MG X E Rx vs tg g) (hb : MSs X E body cb) (hs : ∀ x, foldedSetIterable it X.env x = pure x := by intro _; rfl) : MS X E (.For tg it body [] pos) (mFor ci g cb) := by
  refine (ps_for hp hc hi hg hb hs).imp fun Dn σ H ⟨W, η, m, s, n, p⟩ => ?_
  refine ⟨W, η, m, s, n, (PostS.bind (Rl := RlI X.K X.mg Rx) p).imp fun J H1 ⟨W1, q1, m1, e1, s1, j1, p1⟩ => ?_⟩
  obtain ⟨src, fuel⟩ := q1
  have j1 : JOk X.K X.mg Rx W1 H1 J src := j1
  have p1 : PostS X.K X.mg E W1 H1 Dn (mLoop src g cb fuel 0 η m1) := p1
  refine ⟨fun i f σ H => ∃ W η m, Ext W1 H1 W H ∧ Sim X.K X.mg W H m ∧ REnv X.K W H η σ ∧ PostS X.K X.mg E W H Dn (mLoop src g cb f i η m), ⟨fuel, W1, η, m1, Ext.refl _ _, s1, n.ext e1, p1⟩, fun i f σ H ⟨W, η, m, e2, s2, n2, p2⟩ => ?_⟩
  cases hs : src i m with
  | none => cases f <;> (unfold mLoop at p2; rw [hs] at p2; exact p2.elim)
  | some o =>
    cases o with
    | none =>
      refine .inl ⟨j1.stop W H m i e2.toZ s2 hs, ?_⟩
      cases f <;> (unfold mLoop at p2; rw [hs] at p2; exact p2 σ W H (Ext.refl _ _) s2 n2)
    | some d =>
      cases f with
      | zero => unfold mLoop at p2; rw [hs] at p2; exact p2.elim
      | succ f =>
        unfold mLoop at p2
        rw [hs] at p2
        obtain ⟨g1, g2⟩ := j1.go W H m i d e2.toZ s2 hs
        refine .inr ⟨g1, fun σ' H' => ∃ W η m, Ext W1 H1 W H' ∧ Sim X.K X.mg W H' m ∧ REnv X.K W H' η σ' ∧ PostS X.K X.mg E W H' Dn (mLoop src g cb f (i + 1) η m), fun σ' H' h => ⟨f, Nat.lt_succ_self f, h⟩, fun x H' hy => ?_⟩
        obtain ⟨W3, e3, s3, r3⟩ := g2 x H' hy
        refine ⟨W3, η, m, d, s3, n2.ext e3, r3, (PostS.bind (Rl := fun W H η' σ' => REnv X.K W H η' σ' ∧ wipe σ' vs = wipe σ vs) (PostS.ext e3 p2)).imp fun σ4 H4 ⟨W4, η4, m4, e4, s4, n4, p4⟩ => ?_⟩
        refine ⟨W4, η4, m4, s4, n4.1, ?_⟩
        have e34 := (e2.trans e3).trans e4
        revert p4
        generalize cb η4 m4 = r
        intro p4
        cases r with
        | nxt η5 m5 => exact fun σ5 W5 H5 e5 s5 n5 => ⟨W5, η5, m5, e34.trans e5, s5, n5, PostS.ext e5 p4⟩
        | cnt η5 m5 => exact fun σ5 W5 H5 e5 s5 n5 => ⟨W5, η5, m5, e34.trans e5, s5, n5, PostS.ext e5 p4⟩
        | brk η5 m5 => exact p4
        | ret d5 m5 => exact p4
        | exc x5 m5 => exact p4
        | stk => exact p4
end

/-! ### comprehensions -/
def noX {α : Type} : R α → R α
  | .exc _ _ => .stk
  | r => r
@[simp] theorem noX_ok {α : Type} (a : α) (m : Mem) : noX (.ok a m) = .ok a m := nr rfl
@[simp] theorem noX_stk {α : Type} : noX (.stk : R α) = .stk := nr rfl
@[simp] theorem noX_exc {α : Type} (x : Exn) (m : Mem) : noX (.exc x m : R α) = .stk := nr rfl
theorem Post.nox {K : PySem.W.Frag} {mg : Str → Option Value} {E E' : XK} {W : Wd} {H : Hp} {α β : Type} {Rl : Wd → Hp → α → β → Prop} {Q : β → Hp → Prop} {r : R α} (h : Post K mg E Rl W H Q (noX r)) : Post K mg E' Rl W H Q r := by
  cases r with
  | ok a m => exact h
  | exc x m => exact h.elim
  | stk => exact h.elim
def wipeE (η : Env') : List Nat → Env'
  | [] => η
  | v :: vs => (wipeE η vs).set v none
theorem REnv.wipe {K : PySem.W.Frag} {W : Wd} {H : Hp} {η : Env'} {σ : SL} (h : REnv K W H η σ) : ∀ vs : List Nat, REnv K W H (wipeE η vs) (L2.wipe σ vs)
  | [] => h
  | v :: vs => by
    have ih := h.wipe vs
    refine ⟨?_, fun i d q => ?_⟩
    · show ((wipeE η vs).set v none).length = ((L2.wipe σ vs).set v none).length
      rw [List.length_set, List.length_set]
      exact ih.1
    · have q : ((wipeE η vs).set v none)[i]? = some (some d) := q
      by_cases hv : v = i
      · subst hv
        by_cases hl : v < (wipeE η vs).length
        · rw [List.getElem?_set_self hl] at q
          cases q
        · rw [List.getElem?_eq_none (by rw [List.length_set]; omega)] at q
          cases q
      · rw [List.getElem?_set_ne hv] at q
        obtain ⟨u, a, b⟩ := ih.2 i d q
        refine ⟨u, ?_, b⟩
        show ((L2.wipe σ vs).set v none)[i]? = _
        rw [List.getElem?_set_ne hv]
        exact a
def mLcL (src : Src) (g : GM) (t : TM) (e : EM) (η : Env') : Nat → Nat → Mem → List D → R (List D)
  | 0, k, m, acc => match src k m with
    | some none => .ok acc m
    | _ => .stk
  | f + 1, k, m, acc => match src k m with
    | none => .stk
    | some none => .ok acc m
    | some (some d) => (noX (g d η m)).bind fun η1 m1 => (noX (t η1 m1)).bind fun b m2 =>
      if b = true then (noX (e η1 m2)).bind fun y m3 => if acc.length < sizeLine then mLcL src g t e η f (k + 1) m3 (acc ++ [y]) else .stk
      else mLcL src g t e η f (k + 1) m2 acc
def mLc (vs : List Nat) (al : Bool) (ci : IM) (g : GM) (t : TM) (e : EM) : EM := fun η m => (ci η m).bind fun p m1 => (mLcL p.1 g t e (wipeE η vs) p.2 0 m1 []).bind fun acc m2 => mkL al acc m2
def mYes : TM := fun _ m => .ok true m
/-- a scratch address more -/
def Wd.scr (W : Wd) (p : Addr) : Wd := ⟨W.i, p :: W.z⟩
section
variable {K : PySem.W.Frag} {mg : Str → Option Value} {W W' : Wd} {H H' : Hp} {m : Mem} {p : Addr} {o o' : HO}
theorem ExtZ.scr (s : Sim K mg W H m) (h : H p = none) : ExtZ W H (W.scr p) (upd H p o) :=
  ⟨fun a ha hn => by
    rcases List.mem_cons.mp ha with e | e
    · rw [e]; exact h
    · exact absurd e hn, fun a ha => List.mem_cons_of_mem _ ha, ⟨[], by simp [Wd.scr]⟩, fun a ha hn => absurd ha hn, fun a u e _ => by rw [upd_ne (ne_of_none e h)]; exact e⟩
theorem _root_.Mir.XFs.tr {fs : List (Str × D)} {o : Option Addr} (e : Tr K W H W' H') (h : XFs K W H fs o) : XFs K W' H' fs o := by
  rcases h with h | ⟨d, gs, e1, e2, e3, e4⟩
  · exact .inl h
  · exact .inr ⟨d, gs, e1, e.ls _ _ e2, e3, Reps.tr e e4⟩
theorem CellOk.tr {a : Addr} {c : Cell} (e : Tr K W H W' H') (ha : H' a = H a) (h : CellOk K mg W H a c) : CellOk K mg W' H' a c := by
  cases c with
  | lst ds => obtain ⟨vs, e1, e2⟩ := h; exact ⟨vs, ha.trans e1, Reps.tr e e2⟩
  | dK kvs => obtain ⟨vs, e1, e2, e3⟩ := h; exact ⟨vs, ha.trans e1, e2, Reps.tr e e3⟩
  | dT kvs => obtain ⟨vs, e1, e2, e3, e4⟩ := h; exact ⟨vs, ha.trans e1, e2, fun x hx => e.tp _ _ (e3 x hx), Reps.tr e e4⟩
  | dKz kvs => obtain ⟨o, vs, e1, e2, e3⟩ := h; exact ⟨o, vs, ha.trans e1, e2, Reps.tr e e3⟩
  | dTz kvs => obtain ⟨o, vs, e1, e2, e3, e4⟩ := h; exact ⟨o, vs, ha.trans e1, e2, fun x hx => e.tp _ _ (e3 x hx), Reps.tr e e4⟩
  | ins c fs => obtain ⟨C, dx, fs', e0, e1, e2, e3⟩ := h; exact ⟨C, dx, fs', e0, ha.trans e1, e2, Reps.tr e e3⟩
  | exc c fs => obtain ⟨C, o, e0, e1, e2⟩ := h; exact ⟨C, o, e0, ha.trans e1, e2.tr e⟩
theorem Sim.scr (s : Sim K mg W H m) (h : H p = none) : Sim K mg (W.scr p) (upd H p o) m :=
  ⟨s.nd, s.len, fun i a c e1 e2 => (s.cell i a c e1 e2).tr (ExtZ.scr s h).tr (by
    obtain ⟨u, e, _⟩ := (s.cell i a c e1 e2).mut
    exact upd_ne (ne_of_none e h)), fun a ha hz => by
    rcases List.mem_cons.mp hz with e | e
    · rw [e] at ha
      exact s.nin h ha
    · exact s.sep a ha e, fun a ha => by
    rcases List.mem_cons.mp ha with e | e
    · rw [e]; exact ⟨_, upd_same⟩
    · exact upd_some (s.zs a e)⟩
/-- the scratch object changes -/
theorem Tr.scr (hp : p ∈ W.z) (h : H p = some o) (hi : immut o = false) : Tr K W H W (upd H p o') := by
  refine ⟨fun _ _ h => h, fun a vs k => ?_, fun a vs k => ?_, fun a vs k => ?_⟩
  · rcases k with ⟨u, k, k2⟩ | k
    · exact .inl ⟨u, by
        rw [upd_ne (fun e => by subst e; rw [h] at k; cases k; cases hi)]
        exact k, k2⟩
    · exact .inr k
  · have : a ≠ p := fun e => k.2.2 (e ▸ hp)
    exact ⟨by rw [upd_ne this]; exact k.1, k.2⟩
  · rcases k with ⟨k, k1, k2⟩ | k
    · have : a ≠ p := fun e => k2 (e ▸ hp)
      refine .inl ⟨?_, k1, k2⟩
      rcases k with k | ⟨u, k⟩
      · exact .inl (by rw [upd_ne this]; exact k)
      · exact .inr ⟨u, by rw [upd_ne this]; exact k⟩
    · exact .inr k
theorem Sim.mscr (s : Sim K mg W H m) (hp : p ∈ W.z) (h : H p = some o) (hi : immut o = false) : Sim K mg W (upd H p o') m :=
  ⟨s.nd, s.len, fun i a c e1 e2 => (s.cell i a c e1 e2).tr (Tr.scr hp h hi) (upd_ne fun e => s.sep a (List.mem_of_getElem? e1) (e ▸ hp)), s.sep, fun a ha => upd_some (s.zs a ha)⟩
theorem ExtZ.mscr {W₀ : Wd} {H₀ : Hp} (e : ExtZ W₀ H₀ W H) (hp : H₀ p = none) : ExtZ W₀ H₀ W (upd H p o') :=
  ⟨e.z, e.zs, e.pre, e.new, fun a u q k => by rw [upd_ne (ne_of_none q hp)]; exact e.keep a u q k⟩
/-- the scratch address is given back -/
theorem Tr.unscr : Tr K (W.scr p) H W H := by
  refine ⟨fun _ _ h => h, fun _ _ h => h, fun a vs h => ⟨h.1, h.2.1, fun q => h.2.2 (List.mem_cons_of_mem _ q)⟩, fun a vs h => ?_⟩
  rcases h with ⟨k, k1, k2⟩ | k
  · exact .inl ⟨k, k1, fun q => k2 (List.mem_cons_of_mem _ q)⟩
  · exact .inr k
theorem Sim.unscr (s : Sim K mg (W.scr p) H m) : Sim K mg W H m :=
  ⟨s.nd, s.len, fun i a c e1 e2 => (s.cell i a c e1 e2).tr Tr.unscr rfl, fun a ha hz => s.sep a ha (List.mem_cons_of_mem _ hz), fun a ha => s.zs a (List.mem_cons_of_mem _ ha)⟩
end
section
variable {X : Cx} {E : XK} {pos : Pos}
theorem lc_of {Rx : RX} {vs : List Nat} {al : Bool} {ci : IM} {g : GM} {t : TM} {e : EM} {σ : SL} {H : Hp} {Q : VK} (h : rdE X.K X.mg E (mLc vs al ci g t e) σ H Q) :
    tLc (rd X.K X.mg E (RlI X.K X.mg Rx) ci) (rdG X.K X.mg E0 Rx vs g) (rdT X.K X.mg E0 t) (rdE X.K X.mg E0 e) vs σ H Q := by
  obtain ⟨W, η, m, s, n, p⟩ := h
  refine ⟨W, η, m, s, n, (Post.bind (Rl := RlI X.K X.mg Rx) p).imp fun J H1 ⟨W1, q1, m1, e1, s1, j1, p1⟩ => ?_⟩
  obtain ⟨src, fuel⟩ := q1
  have j1 : JOk X.K X.mg Rx W1 H1 J src := j1
  intro A hA
  have n1 := n.ext e1
  have p1 : Post X.K X.mg E (Rep X.K) W1 H1 Q ((mLcL src g t e (wipeE η vs) fuel 0 m1 []).bind fun acc m2 => mkL al acc m2) := p1
  refine ⟨fun i f H => ∃ W m acc as, ExtZ W1 H1 (W.scr A) H ∧ Ext W1 H1 W H ∧ Sim X.K X.mg (W.scr A) H m ∧ H A = some (.lst as) ∧ Reps X.K (W.scr A) H acc as ∧ acc.length ≤ sizeLine ∧
      Post X.K X.mg E (Rep X.K) W1 H1 Q ((mLcL src g t e (wipeE η vs) f i m acc).bind fun acc m2 => mkL al acc m2),
    ⟨fuel, W1, m1, [], [], ExtZ.scr s1 hA, Ext.fresh hA, s1.scr hA, upd_same, reps_nil, Nat.zero_le _, p1⟩, fun i f H ⟨W, m, acc, as, ez, ex, s2, hAs, ra, hl, p2⟩ => ?_⟩
  have hAz : A ∈ (W.scr A).z := List.mem_cons_self
  have nW : REnv X.K (W.scr A) H (wipeE η vs) (L2.wipe σ vs) := by
    have := n1.wipe vs
    exact ⟨this.1, fun j d q => let ⟨v, a, b⟩ := this.2 j d q; ⟨v, a, b.extZ ez⟩⟩
  have fin : Post X.K X.mg E (Rep X.K) W1 H1 Q (mkL al acc m) → Q (.ref A) H := fun q => by
    have s3 := s2.unscr
    have hni : A ∉ W.i := fun hx => s2.sep A hx hAz
    have hz : A ∉ W.z := by
      rw [ex.z]
      exact s1.ninz hA
    have ra' := Reps.tr (Tr.unscr) ra
    cases al with
    | false => exact q (.ref A) W H ex s3 (rep_lst ⟨hAs, hni, hz⟩ ra')
    | true =>
      have e3 : Ext W1 H1 (W.add A) H := by
        obtain ⟨tt, et⟩ := ex.pre
        refine ⟨ex.z, ⟨tt ++ [A], by show W.i ++ [A] = _; rw [et, List.append_assoc]⟩, fun a ha hn => ?_, ex.keep⟩
        rcases List.mem_append.mp ha with ha | ha
        · exact ex.new a ha hn
        · have : a = A := by simpa using ha
          subst this
          exact ⟨hA, s1.ninz hA⟩
      have tr : Tr X.K (W.scr A) H (W.add A) H := by
        refine ⟨fun j a h => ?_, fun _ _ h => h, fun a vs h => ⟨h.1, fun ha => ?_, fun q => h.2.2 (List.mem_cons_of_mem _ q)⟩, fun a vs h => ?_⟩
        · have h : W.i[j]? = some a := h
          show (W.i ++ [A])[j]? = some a
          rw [List.getElem?_append_left (List.getElem?_eq_some_iff.mp h).1]
          exact h
        · rcases List.mem_append.mp ha with ha | ha
          · exact h.2.1 ha
          · have : a = A := by simpa using ha
            exact h.2.2 (this ▸ hAz)
        · rcases h with ⟨k, k1, k2⟩ | k
          · refine .inl ⟨k, fun ha => ?_, fun q => k2 (List.mem_cons_of_mem _ q)⟩
            rcases List.mem_append.mp ha with ha | ha
            · exact k1 ha
            · have : a = A := by simpa using ha
              exact k2 (this ▸ hAz)
          · exact .inr k
      refine q (.ref A) (W.add A) H e3 ⟨?_, ?_, fun j a c h1 h2 => ?_, fun a ha => ?_, s3.zs⟩ (rep_ref ?_)
      · refine List.nodup_append.mpr ⟨s3.nd, by simp, fun a ha b hb => ?_⟩
        rintro rfl
        have : a = A := by simpa using hb
        exact hni (this ▸ ha)
      · show (W.i ++ [A]).length = (m ++ [Cell.lst acc]).length
        rw [List.length_append, List.length_append, s3.len]
        rfl
      · have h1 : (W.i ++ [A])[j]? = some a := h1
        by_cases hj : j < W.i.length
        · rw [List.getElem?_append_left hj] at h1
          rw [List.getElem?_append_left (by rw [← s3.len]; exact hj)] at h2
          exact (s2.cell j a c h1 h2).tr tr rfl
        · have hj' : j = W.i.length := by
            have := (List.getElem?_eq_some_iff.mp h1).1
            rw [List.length_append] at this
            simp at this
            omega
          subst hj'
          rw [List.getElem?_append_right (Nat.le_refl _), Nat.sub_self] at h1
          rw [s3.len, List.getElem?_append_right (Nat.le_refl _), Nat.sub_self] at h2
          simp at h1 h2
          subst h1
          subst h2
          exact ⟨as, hAs, Reps.tr tr ra⟩
      · rcases List.mem_append.mp ha with ha | ha
        · exact s3.sep a ha
        · have : a = A := by simpa using ha
          rw [this]
          exact hz
      · show (W.i ++ [A])[m.length]? = some A
        rw [← s3.len, List.getElem?_append_right (Nat.le_refl _), Nat.sub_self]
        rfl
  cases hs : src i m with
  | none => cases f <;> (unfold mLcL at p2; rw [hs] at p2; exact p2.elim)
  | some o =>
    cases o with
    | none =>
      refine .inl ⟨j1.stop _ H m i ez s2 hs, fin ?_⟩
      cases f <;> (unfold mLcL at p2; rw [hs] at p2; exact p2)
    | some d =>
      cases f with
      | zero => unfold mLcL at p2; rw [hs] at p2; exact p2.elim
      | succ f =>
        unfold mLcL at p2
        rw [hs] at p2
        dsimp only at p2
        obtain ⟨g1, g2⟩ := j1.go _ H m i d ez s2 hs
        refine .inr ⟨g1, fun H' => ∃ W m acc as, ExtZ W1 H1 (W.scr A) H' ∧ Ext W1 H1 W H' ∧ Sim X.K X.mg (W.scr A) H' m ∧ H' A = some (.lst as) ∧ Reps X.K (W.scr A) H' acc as ∧ acc.length ≤ sizeLine ∧
          Post X.K X.mg E (Rep X.K) W1 H1 Q ((mLcL src g t e (wipeE η vs) f (i + 1) m acc).bind fun acc m2 => mkL al acc m2), fun H' h => ⟨f, Nat.lt_succ_self f, h⟩, fun x H' hy => ?_⟩
        obtain ⟨W3, e3, s3, r3⟩ := g2 x H' hy
        -- the scratch list stays through a step
        have keepA : ∀ {Wb : Wd} {Hb : Hp}, Ext (W.scr A) H Wb Hb → Hb A = some (.lst as) := fun e => e.keep A _ hAs (.inr fun hx => s2.sep A hx hAz)
        have back : ∀ {Wb : Wd} {Hb : Hp}, Ext (W.scr A) H Wb Hb → Wb = (Wd.mk Wb.i W.z).scr A := fun {Wb Hb} e => by
          have := e.z
          cases Wb
          simp only [Wd.scr] at this ⊢
          rw [this]
        have exb : ∀ {Wb : Wd} {Hb : Hp}, Ext (W.scr A) H Wb Hb → Ext W1 H1 (Wd.mk Wb.i W.z) Hb := fun {Wb Hb} e => by
          refine ⟨ex.z, (ez.trans e).pre, fun a ha hn => ⟨(ez.trans e).new a ha hn, ?_⟩, (ez.trans e).keep⟩
          intro hz
          by_cases hw : a ∈ W.i
          · exact (ex.new a hw hn).2 hz
          · have := (e.new a ha hw).2
            exact this (List.mem_cons_of_mem _ (by rw [ex.z]; exact hz))
        cases hg : g d (wipeE η vs) m with
        | stk => rw [hg] at p2; exact p2.elim
        | exc x m' => rw [hg] at p2; exact p2.elim
        | ok η4 m4 =>
          rw [hg] at p2
          refine ⟨W3, wipeE η vs, m, d, s3, nW.ext e3, r3, ?_⟩
          rw [hg]
          intro σ4 W4 H4 e4 s4 n4
          refine ⟨by rw [n4.2, wipe_wipe], ?_⟩
          have e34 := e3.trans e4
          have p2 : Post X.K X.mg E (Rep X.K) W1 H1 Q (((noX (t η4 m4)).bind fun b m2 => if b = true then (noX (e η4 m2)).bind fun y m3 => if acc.length < sizeLine then mLcL src g t e (wipeE η vs) f (i + 1) m3 (acc ++ [y]) else .stk
            else mLcL src g t e (wipeE η vs) f (i + 1) m2 acc).bind fun acc m2 => mkL al acc m2) := p2
          cases ht : t η4 m4 with
          | stk => rw [ht] at p2; exact p2.elim
          | exc x m' => rw [ht] at p2; exact p2.elim
          | ok b m5 =>
            rw [ht] at p2
            refine ⟨W4, η4, m4, s4, n4.1, ?_⟩
            rw [ht]
            intro b' W5 H5 e5 s5 hb
            cases (show b = b' from hb)
            have e35 := e34.trans e5
            cases b with
            | false =>
              rw [if_neg Bool.false_ne_true]
              refine ⟨Wd.mk W5.i W.z, m5, acc, as, ?_, exb e35, ?_, keepA e35, ?_, hl, p2⟩
              · rw [← back e35]
                exact ez.trans e35
              · rw [← back e35]
                exact s5
              · rw [← back e35]
                exact ra.ext e35
            | true =>
              rw [if_pos rfl]
              have p2 : Post X.K X.mg E (Rep X.K) W1 H1 Q (((noX (e η4 m5)).bind fun y m3 => if acc.length < sizeLine then mLcL src g t e (wipeE η vs) f (i + 1) m3 (acc ++ [y]) else .stk).bind fun acc m2 => mkL al acc m2) := p2
              cases he : e η4 m5 with
              | stk => rw [he] at p2; exact p2.elim
              | exc x m' => rw [he] at p2; exact p2.elim
              | ok y m6 =>
                rw [he] at p2
                have p2 : Post X.K X.mg E (Rep X.K) W1 H1 Q ((if acc.length < sizeLine then mLcL src g t e (wipeE η vs) f (i + 1) m6 (acc ++ [y]) else .stk).bind fun acc m2 => mkL al acc m2) := p2
                by_cases hlt : acc.length < sizeLine
                · rw [if_pos hlt] at p2
                  refine ⟨W5, η4, m5, s5, n4.1.ext e5, ?_⟩
                  rw [he]
                  intro v W6 H6 e6 s6 r6
                  have e36 := e35.trans e6
                  have hA6 := keepA e36
                  refine ⟨as, hA6, by rw [ra.length]; exact hlt, Wd.mk W6.i W.z, m6, acc ++ [y], as ++ [v], ?_, ?_, ?_, upd_same, ?_, ?_, p2⟩
                  · rw [← back e36]
                    exact (ez.trans e36).mscr hA
                  · have q := exb e36
                    exact ⟨q.z, q.pre, q.new, fun a o h k => by rw [upd_ne (ne_of_none h hA)]; exact q.keep a o h k⟩
                  · rw [← back e36]
                    exact s6.mscr (by rw [e36.z]; exact hAz) hA6 rfl
                  · rw [← back e36]
                    have z6 : A ∈ W6.z := by rw [e36.z]; exact hAz
                    exact Reps.tr (Tr.scr z6 hA6 rfl) ((ra.ext e36).append (reps_one r6))
                  · rw [List.length_append]
                    exact hlt
                · rw [if_neg hlt] at p2
                  exact p2.elim
end
end Mir

/-! Mir, operations. -/
namespace Mir
open PySem PySem.Spec PyProof.Rows L2

/-! ### numbers -/
def gSub : D → D → Mem → R D
  | .int i, .int j, m => .ok (.int (i - j)) m
  | _, _, _ => .stk
def mulOk (i j : Int) : Prop := i.natAbs < 2 ^ 64 ∨ j.natAbs < 2 ^ 64 ∨ i.natAbs.log2 + j.natAbs.log2 < 1000000
instance (i j : Int) : Decidable (mulOk i j) := by unfold mulOk; infer_instance
def divOk (j : Int) : Prop := j ≠ 0 ∧ j.natAbs.log2 < 9000
instance (j : Int) : Decidable (divOk j) := by unfold divOk; infer_instance
def powOk (i j : Int) : Prop := 0 ≤ j ∧ j ≤ 1000000 ∧ i.natAbs < 2 ^ 64
instance (i j : Int) : Decidable (powOk i j) := by unfold powOk; infer_instance
def gMulI : D → D → Mem → R D
  | .int i, .int j, m => if mulOk i j then .ok (.int (i * j)) m else .stk
  | _, _, _ => .stk
def gFdiv : D → D → Mem → R D
  | .int i, .int j, m => if divOk j then .ok (.int (i.fdiv j)) m else .stk
  | _, _, _ => .stk
def gMod : D → D → Mem → R D
  | .int i, .int j, m => if j = 0 then .stk else .ok (.int (i.fmod j)) m
  | _, _, _ => .stk
def gPow : D → D → Mem → R D
  | .int i, .int j, m => if powOk i j then .ok (.int (i ^ j.toNat)) m else .stk
  | _, _, _ => .stk
def gNeg : D → Mem → R D
  | .int i, m => .ok (.int (-i)) m
  | _, _ => .stk
section
variable {X : Cx} {E : XK}
theorem om_sub : OpM X E (binaryOp .Sub) gSub := by
  rintro pins s σ H x y v u Q I rx ry ⟨W, m, d, e, sm, rd, re, p⟩
  cases d <;> try exact p.elim
  cases e <;> try exact p.elim
  rw [rd.int'] at rx; rw [re.int'] at ry
  exact op_sub pins s σ H _ _ v u Q I rx ry ⟨_, _, rfl, rfl, p.now sm rep_int⟩
theorem om_mul : OpM X E (binaryOp .Mult) gMulI := by
  rintro pins s σ H x y v u Q I rx ry ⟨W, m, d, e, sm, rd, re, p⟩
  cases d <;> try exact p.elim
  cases e <;> try exact p.elim
  rename_i i j
  rw [rd.int'] at rx; rw [re.int'] at ry
  unfold gMulI at p
  by_cases h : mulOk i j
  · simp only [h, if_true] at p
    rcases h with h | h | h
    · exact op_mul pins s σ H _ _ v u Q I rx ry ⟨_, _, rfl, rfl, .inl ⟨by omega, by omega⟩, p.now sm rep_int⟩
    · exact op_mul pins s σ H _ _ v u Q I rx ry ⟨_, _, rfl, rfl, .inr ⟨by omega, by omega⟩, p.now sm rep_int⟩
    · exact op_mulW pins s σ H _ _ v u Q I rx ry ⟨_, _, rfl, rfl, h, p.now sm rep_int⟩
  · simp only [h, if_false] at p
    exact p.elim
theorem om_fdiv : OpM X E (binaryOp .FloorDiv) gFdiv := by
  rintro pins s σ H x y v u Q I rx ry ⟨W, m, d, e, sm, rd, re, p⟩
  cases d <;> try exact p.elim
  cases e <;> try exact p.elim
  rename_i i j
  rw [rd.int'] at rx; rw [re.int'] at ry
  unfold gFdiv at p
  by_cases h : divOk j
  · simp only [h, if_true] at p
    have ho : OpR X (binaryOp .FloorDiv) (rI (fun _ j => divOk j) fun i j => .int (i.fdiv j)) := opI fun _ _ _ _ _ _ _ hc q => floordiv_int hc.1 q (.inl (PyProof.noPylong_of_log2 hc.2))
    exact ho pins s σ H _ _ v u Q I rx ry ⟨_, _, rfl, rfl, h, p.now sm rep_int⟩
  · simp only [h, if_false] at p
    exact p.elim
theorem om_mod : OpM X E (binaryOp .Mod) gMod := by
  rintro pins s σ H x y v u Q I rx ry ⟨W, m, d, e, sm, rd, re, p⟩
  cases d <;> try exact p.elim
  cases e <;> try exact p.elim
  rename_i i j
  rw [rd.int'] at rx; rw [re.int'] at ry
  unfold gMod at p
  by_cases h : j = 0
  · simp only [h, if_true] at p
    exact p.elim
  · simp only [h, if_false] at p
    exact op_modN pins s σ H _ _ v u Q I rx ry ⟨_, _, rfl, rfl, h, p.now sm rep_int⟩
theorem om_pow : OpM X E (binaryOp .Pow) gPow := by
  rintro pins s σ H x y v u Q I rx ry ⟨W, m, d, e, sm, rd, re, p⟩
  cases d <;> try exact p.elim
  cases e <;> try exact p.elim
  rename_i i j
  rw [rd.int'] at rx; rw [re.int'] at ry
  unfold gPow at p
  by_cases h : powOk i j
  · simp only [h, if_true] at p
    exact op_pow pins s σ H _ _ v u Q I rx ry ⟨_, _, rfl, rfl, h, p.now sm rep_int⟩
  · simp only [h, if_false] at p
    exact p.elim
theorem um_neg : UnR X (unaryOp .USub) (rU1 X.K X.mg E gNeg) := by
  rintro pins s σ H x v Q I rx ⟨W, m, d, sm, rd, p⟩
  cases d <;> try exact p.elim
  rw [rd.int'] at rx
  exact un_neg pins s σ H _ v Q I rx ⟨_, rfl, p.now sm rep_int⟩
end

/-! ### + -/
def catL (al : Bool) (m : Mem) : Option (List D) → Option (List D) → R D
  | some xs, some ys => if xs.length + ys.length ≤ sizeLine then mkL al (xs ++ ys) m else .stk
  | _, _ => .stk
def gAdd (al : Bool) (d e : D) (m : Mem) : R D := match d, e with
  | .int i, .int j => .ok (.int (i + j)) m
  | .str x, .str y => if x.length + y.length ≤ sizeLine then .ok (.str (x ++ y)) m else .stk
  | .tup xs, .tup ys => if xs.length + ys.length ≤ sizeLine then .ok (.tup (xs ++ ys)) m else .stk
  | d, e => catL al m (lstOwn m d) (lstOwn m e)
@[simp] theorem gAdd_int (al : Bool) (i j : Int) (m : Mem) : gAdd al (.int i) (.int j) m = .ok (.int (i + j)) m := nr rfl
section
variable {X : Cx} {E : XK}
theorem om_cat {al : Bool} {pins : List (Addr × Obj)} {s : Shared} {σ : SL} {H : Hp} {x y : V} {v u : Value} {Q : VK} {W : Wd} {m : Mem} {d e : D} (I : Inv X pins σ H s) (rx : RelV x v) (ry : RelV y u) (sm : Sim X.K X.mg W H m) (rd : Rep X.K W H d x) (re : Rep X.K W H e y)
    (p : Post X.K X.mg E (Rep X.K) W H Q (catL al m (lstOwn m d) (lstOwn m e))) : wpAny (model X.prog X.w) X.A (binaryOp .Add v u) (EP X pins σ Q) X.xe s := by
  cases h1 : lstOwn m d with
  | none => rw [h1] at p; exact p.elim
  | some xs =>
    cases h2 : lstOwn m e with
    | none => rw [h1, h2] at p; exact p.elim
    | some ys =>
      rw [h1, h2] at p
      have p : Post X.K X.mg E (Rep X.K) W H Q (if xs.length + ys.length ≤ sizeLine then mkL al (xs ++ ys) m else .stk) := p
      obtain ⟨a, vs, rfl, q1, q2⟩ := sm.own rd h1
      obtain ⟨b, us, rfl, q3, q4⟩ := sm.own re h2
      by_cases hl : xs.length + ys.length ≤ sizeLine
      · rw [if_pos hl] at p
        exact op_cat pins s σ H _ _ v u Q I rx ry ⟨a, b, vs, us, rfl, rfl, q1, q3, by rw [q2.length, q4.length]; exact hl, fun pp hp => sm.newL hp (q2.append q4) p⟩
      · rw [if_neg hl] at p
        exact p.elim
theorem om_add (al : Bool) : OpM X E (binaryOp .Add) (gAdd al) := by
  rintro pins s σ H x y v u Q I rx ry ⟨W, m, d, e, sm, rd, re, p⟩
  unfold gAdd at p
  split at p
  · rw [rd.int'] at rx; rw [re.int'] at ry
    exact op_add pins s σ H _ _ v u Q I rx ry ⟨_, _, rfl, rfl, p.now sm rep_int⟩
  · rw [rd.str'] at rx; rw [re.str'] at ry
    split at p
    · rename_i hl
      exact op_add_str pins s σ H _ _ v u Q I rx ry ⟨_, _, rfl, rfl, hl, p.now sm rep_str⟩
    · exact p.elim
  · rename_i xs ys
    obtain ⟨a, vs, rfl, q1, q2⟩ := rd.tupF'
    obtain ⟨b, us, rfl, q3, q4⟩ := re.tupF'
    split at p
    · rename_i hl
      refine op_catF pins s σ H _ _ v u Q I rx ry ⟨a, b, vs, us, rfl, rfl, q1.t, q3.t, by rw [q2.length, q4.length]; exact hl, fun e => ?_, fun e1 e2 => ?_, fun _ _ pp oo hp ho => sm.newT hp ho (q2.append q4) p⟩
      · have : xs = [] := by
          have := q2.length
          rw [e] at this
          exact List.length_eq_zero_iff.mp this.symm
        subst this
        exact p.now sm (rep_tup q3 q4)
      · have : ys = [] := by
          have := q4.length
          rw [e2] at this
          exact List.length_eq_zero_iff.mp this.symm
        subst this
        rw [List.append_nil] at p
        exact p.now sm (rep_tup q1 q2)
    · exact p.elim
  · exact om_cat I rx ry sm rd re p
end

/-! ### == -/
def mapO {α β : Type} (f : α → Option β) : List α → Option (List β)
  | [] => some []
  | d :: ds => match f d, mapO f ds with
    | some a, some as => some (a :: as)
    | _, _ => none
def toP (m : Mem) : Nat → D → Option PyData
  | 0, _ => none
  | n + 1, d => match d with
    | .non => some .none
    | .bl b => some (.bool b)
    | .int i => some (.int i)
    | .str x => if PyData.strOk x = true then some (.str x) else none
    | .tup ds => (mapO (toP m n) ds).map .tuple
    | .lst ds => (mapO (toP m n) ds).map .list
    | .scr ds => (mapO (toP m n) ds).map .list
    | .ref i => ((lstC m[i]?).bind fun ds => mapO (toP m n) ds).map .list
theorem mapO_cons {α β : Type} {f : α → Option β} {d : α} {ds : List α} {bs : List β} (h : mapO f (d :: ds) = some bs) : ∃ a as, bs = a :: as ∧ f d = some a ∧ mapO f ds = some as := by
  unfold mapO at h
  cases h1 : f d with
  | none => rw [h1] at h; simp at h
  | some a =>
    cases h2 : mapO f ds with
    | none => rw [h1, h2] at h; simp at h
    | some as => rw [h1, h2] at h; simp at h; exact ⟨a, as, h.symm, rfl, rfl⟩
section
variable {X : Cx} {E : XK} {W : Wd} {H : Hp} {m : Mem}
def POk (K : PySem.W.Frag) (H : Hp) (v : V) (p : PyData) (n : Nat) : Prop := Dp K H v p ∧ p.canLay0 = true ∧ p.depth ≤ n
theorem toP_all {n : Nat} (ih : ∀ (d : D) (v : V) (p : PyData), Rep X.K W H d v → toP m n d = some p → POk X.K H v p n) : ∀ (ds : List D) (vs : List V) (ps : List PyData), Reps X.K W H ds vs → mapO (toP m n) ds = some ps → DpAll X.K H vs ps ∧ PyData.canLayAll0 ps = true ∧ PyData.depthAll ps ≤ n
  | [], vs, ps, r, h => by
    rw [r.nil']
    cases h
    exact ⟨.nil, rfl, Nat.zero_le _⟩
  | d :: ds, vs, ps, r, h => by
    obtain ⟨v, vr, rfl, r1, r2⟩ := r.cons'
    obtain ⟨a, as, rfl, h1, h2⟩ := mapO_cons h
    obtain ⟨q1, q2, q3⟩ := ih d v a r1 h1
    obtain ⟨k1, k2, k3⟩ := toP_all ih ds vr as r2 h2
    refine ⟨.cons q1 k1, ?_, ?_⟩
    · show (PyData.canLay0 a && PyData.canLayAll0 as) = true
      rw [q2, k2]; rfl
    · show max (PyData.depth a) (PyData.depthAll as) ≤ n
      omega
theorem toP_ok (sm : Sim X.K X.mg W H m) : ∀ (n : Nat) (d : D) (v : V) (p : PyData), Rep X.K W H d v → toP m n d = some p → POk X.K H v p n
  | 0, d, v, p, r, h => by cases h
  | n + 1, d, v, p, r, h => by
    have ih := toP_ok sm n
    have lst : ∀ (ds : List D) (a : Addr) (vs : List V), SqL X.K H a vs → Reps X.K W H ds vs → (mapO (toP m n) ds).map PyData.list = some p → POk X.K H (.ref a) p (n + 1) := fun ds a vs q1 q2 h => by
      cases hm : mapO (toP m n) ds with
      | none => rw [hm] at h; cases h
      | some ps =>
        rw [hm] at h; cases h
        obtain ⟨k1, k2, k3⟩ := toP_all ih ds vs ps q2 hm
        exact ⟨.lst q1 k1, k2, Nat.succ_le_succ k3⟩
    cases d with
    | non => rw [r.non']; cases h; exact ⟨.non, rfl, Nat.zero_le _⟩
    | bl b => rw [r.bl']; cases h; exact ⟨.bl b, rfl, Nat.zero_le _⟩
    | int i => rw [r.int']; cases h; exact ⟨.int i, rfl, Nat.zero_le _⟩
    | str x =>
      rw [r.str']
      unfold toP at h
      by_cases hs : PyData.strOk x = true
      · simp only [hs, if_true] at h
        cases h
        exact ⟨.str x, hs, Nat.zero_le _⟩
      · simp only [hs] at h
        cases h
    | tup ds =>
      obtain ⟨a, vs, rfl, q1, q2⟩ := r.tup'
      have h : (mapO (toP m n) ds).map PyData.tuple = some p := h
      cases hm : mapO (toP m n) ds with
      | none => rw [hm] at h; cases h
      | some ps =>
        rw [hm] at h; cases h
        obtain ⟨k1, k2, k3⟩ := toP_all ih ds vs ps q2 hm
        exact ⟨.tup q1 k1, k2, Nat.succ_le_succ k3⟩
    | lst ds =>
      obtain ⟨a, vs, rfl, q1, q2⟩ := sm.lst r (ds := ds) rfl
      exact lst ds a vs q1 q2 h
    | scr ds =>
      obtain ⟨a, vs, rfl, q1, q2⟩ := sm.lst r (ds := ds) rfl
      exact lst ds a vs q1 q2 h
    | ref i =>
      have h : ((lstC m[i]?).bind fun ds => mapO (toP m n) ds).map PyData.list = some p := h
      cases hl : lstC m[i]? with
      | none => rw [hl] at h; cases h
      | some ds =>
        rw [hl] at h
        obtain ⟨a, vs, rfl, q1, q2⟩ := sm.lst r (ds := ds) hl
        exact lst ds a vs q1 q2 h
end
def flatD : D → Option V
  | .non => some .non
  | .bl b => some (.bl b)
  | .int i => some (.int i)
  | .str x => some (.str x)
  | _ => none
theorem flat_rep {K : PySem.W.Frag} {W : Wd} {H : Hp} {d : D} {v x : V} (r : Rep K W H d v) (h : flatD d = some x) : v = x ∧ flatV x = true := by
  cases d <;> try (cases h)
  · exact ⟨r.non', rfl⟩
  · exact ⟨r.bl', rfl⟩
  · exact ⟨r.int', rfl⟩
  · exact ⟨r.str', rfl⟩
def eqDeep (neg : Bool) (m : Mem) (d e : D) : R D := match toP m 60 d, toP m 60 e with
  | some p, some q => .ok (.bl (PyData.eqv p q ^^ neg)) m
  | _, _ => .stk
def gEq (neg : Bool) (d e : D) (m : Mem) : R D := match flatD d, flatD e with
  | some x, some y => if scal x y = true then .ok (.bl (decide (x = y) ^^ neg)) m else eqDeep neg m d e
  | _, _ => eqDeep neg m d e
section
variable {X : Cx} {E : XK}
theorem om_deep {neg : Bool} (hu : X.A.units + 64 < cLine) {pins : List (Addr × Obj)} {s : Shared} {σ : SL} {H : Hp} {x y : V} {v u : Value} {Q : VK} {W : Wd} {m : Mem} {d e : D} (I : Inv X pins σ H s) (rx : RelV x v) (ry : RelV y u) (sm : Sim X.K X.mg W H m) (rd : Rep X.K W H d x) (re : Rep X.K W H e y)
    (p : Post X.K X.mg E (Rep X.K) W H Q (eqDeep neg m d e)) : wpAny (model X.prog X.w) X.A (compareOp (if neg then .NotEq else .Eq) v u) (EP X pins σ Q) X.xe s := by
  unfold eqDeep at p
  split at p
  · rename_i p1 p2 h1 h2
    obtain ⟨a1, a2, a3⟩ := toP_ok sm 60 d x p1 rd h1
    obtain ⟨b1, b2, b3⟩ := toP_ok sm 60 e y p2 re h2
    have s1 : SeqAt.shaped p1 = true := by
      unfold SeqAt.shaped
      rw [a2, decide_eq_true (by omega)]; rfl
    have s2 : SeqAt.shaped p2 = true := by
      unfold SeqAt.shaped
      rw [b2, decide_eq_true (by omega)]; rfl
    cases neg with
    | false => exact op_eqD hu pins s σ H _ _ v u Q I rx ry ⟨p1, p2, a1, b1, s1, s2, by simpa using p.now sm rep_bl⟩
    | true => exact op_neD hu pins s σ H _ _ v u Q I rx ry ⟨p1, p2, a1, b1, s1, s2, by simpa using p.now sm rep_bl⟩
  · exact p.elim
theorem om_eqs {neg : Bool} (hu : X.A.units + 64 < cLine) : OpM X E (compareOp (if neg then .NotEq else .Eq)) (gEq neg) := by
  rintro pins s σ H x y v u Q I rx ry ⟨W, m, d, e, sm, rd, re, p⟩
  unfold gEq at p
  split at p
  · rename_i x' y' h1 h2
    obtain ⟨e1, _⟩ := flat_rep rd h1
    obtain ⟨e2, _⟩ := flat_rep re h2
    split at p
    · rename_i hs
      subst e1 e2
      cases neg with
      | false => exact op_eq pins s σ H _ _ v u Q I rx ry ⟨hs, by simpa using p.now sm rep_bl⟩
      | true => exact op_ne pins s σ H _ _ v u Q I rx ry ⟨hs, by simpa using p.now sm rep_bl⟩
    · exact om_deep hu I rx ry sm rd re p
  · exact om_deep hu I rx ry sm rd re p
theorem om_eq (hu : X.A.units + 64 < cLine) : OpM X E (compareOp .Eq) (gEq false) := om_eqs (neg := false) hu
theorem om_ne (hu : X.A.units + 64 < cLine) : OpM X E (compareOp .NotEq) (gEq true) := om_eqs (neg := true) hu
end

/-! ### order -/
def gCmp (fi : Int → Int → Bool) (fs : List Nat → List Nat → Bool) : D → D → Mem → R D
  | .int i, .int j, m => .ok (.bl (fi i j)) m
  | .str x, .str y, m => .ok (.bl (fs x.cps.toList y.cps.toList)) m
  | _, _, _ => .stk
abbrev gLt := gCmp (fun i j => decide (i < j)) (fun x y => decide (x < y))
abbrev gGt := gCmp (fun i j => decide (j < i)) (fun x y => decide (y < x))
abbrev gGe := gCmp (fun i j => decide (j ≤ i)) (fun x y => !decide (x < y))
section
variable {X : Cx} {E : XK}
theorem om_lt : OpM X E (compareOp .Lt) gLt := by
  rintro pins s σ H x y v u Q I rx ry ⟨W, m, d, e, sm, rd, re, p⟩
  unfold gLt gCmp at p
  split at p
  · rw [rd.int'] at rx; rw [re.int'] at ry
    exact op_lt pins s σ H _ _ v u Q I rx ry ⟨_, _, rfl, rfl, p.now sm rep_bl⟩
  · rw [rd.str'] at rx; rw [re.str'] at ry
    exact op_lt_str pins s σ H _ _ v u Q I rx ry ⟨_, _, rfl, rfl, p.now sm rep_bl⟩
  · exact p.elim
theorem om_gt : OpM X E (compareOp .Gt) gGt := by
  rintro pins s σ H x y v u Q I rx ry ⟨W, m, d, e, sm, rd, re, p⟩
  unfold gGt gCmp at p
  split at p
  · rw [rd.int'] at rx; rw [re.int'] at ry
    exact op_gt pins s σ H _ _ v u Q I rx ry ⟨_, _, rfl, rfl, p.now sm rep_bl⟩
  · rw [rd.str'] at rx; rw [re.str'] at ry
    exact op_gt_str pins s σ H _ _ v u Q I rx ry ⟨_, _, rfl, rfl, p.now sm rep_bl⟩
  · exact p.elim
theorem om_ge : OpM X E (compareOp .GtE) gGe := by
  rintro pins s σ H x y v u Q I rx ry ⟨W, m, d, e, sm, rd, re, p⟩
  unfold gGe gCmp at p
  split at p
  · rw [rd.int'] at rx; rw [re.int'] at ry
    exact op_ge pins s σ H _ _ v u Q I rx ry ⟨_, _, rfl, rfl, p.now sm rep_bl⟩
  · rw [rd.str'] at rx; rw [re.str'] at ry
    exact op_ge_str pins s σ H _ _ v u Q I rx ry ⟨_, _, rfl, rfl, p.now sm rep_bl⟩
  · exact p.elim
end
end Mir

/-! Mir, membership, subscripts, built-ins, sources, calls. -/
namespace Mir
open PySem PySem.Spec PyProof.Rows L2

/-! ### in, is -/
def inStr (x y : Str) : Bool := match x.cps.toList with
  | [c] => decide (c ∈ y.cps.toList)
  | _ => !(Builtin.Str.occurrences y x 0 y.length 1).isEmpty
/-- in a list or tuple -/
def inSeq (m : Mem) (d : D) (ds : List D) : Option Bool := match toP m 60 d, mapO (toP m 59) ds with
  | some p, some ps => some (ps.any fun z => PyData.eqv z p)
  | _, _ => none
def flatIn (d : D) (ds : List D) : Option Bool := match flatD d, mapO flatD ds with
  | some x, some xs => some (inV x xs)
  | _, _ => none
def bR (neg : Bool) (m : Mem) : Option Bool → R D
  | some b => .ok (.bl (b ^^ neg)) m
  | none => .stk
def inOf (m : Mem) (d e : D) : Option Bool := match e with
  | .tup ds => flatIn d ds
  | e => match lstOf m e with
    | some ds => match flatIn d ds with
      | some b => some b
      | none => inSeq m d ds
    | none => none
def gIn (neg : Bool) (d e : D) (m : Mem) : R D := match d, e with
  | .str x, .str y => .ok (.bl (inStr x y ^^ neg)) m
  | d, e => bR neg m (inOf m d e)
section
variable {X : Cx} {E : XK}
theorem flats_rep {W : Wd} {H : Hp} : ∀ {ds : List D} {vs xs : List V}, Reps X.K W H ds vs → mapO flatD ds = some xs → vs = xs ∧ xs.all flatV = true
  | [], vs, xs, r, h => by rw [r.nil']; cases h; exact ⟨rfl, rfl⟩
  | d :: ds, vs, xs, r, h => by
    obtain ⟨v, vr, rfl, r1, r2⟩ := r.cons'
    obtain ⟨a, as, rfl, h1, h2⟩ := mapO_cons h
    obtain ⟨e1, e2⟩ := flat_rep r1 h1
    obtain ⟨e3, e4⟩ := flats_rep r2 h2
    subst e1 e3
    exact ⟨rfl, by rw [List.all_cons, e2, e4]; rfl⟩
abbrev inOp (neg : Bool) : CmpOp := if neg then .NotIn else .In
theorem om_flatIn {neg : Bool} {pins : List (Addr × Obj)} {s : Shared} {σ : SL} {H : Hp} {x : V} {v u : Value} {Q : VK} {W : Wd} {m : Mem} {d : D} {b : Bool} {a : Addr} {ds : List D} {vs : List V} (I : Inv X pins σ H s) (rx : RelV x v) (ry : RelV (.ref a) u) (sm : Sim X.K X.mg W H m) (rd : Rep X.K W H d x)
    (rs : Reps X.K W H ds vs) (hq : SqL X.K H a vs ∨ SqT X.K H a vs) (h : flatIn d ds = some b) (p : Post X.K X.mg E (Rep X.K) W H Q (bR neg m (some b))) : wpAny (model X.prog X.w) X.A (compareOp (inOp neg) v u) (EP X pins σ Q) X.xe s := by
  unfold flatIn at h
  split at h
  · rename_i x' xs' h1 h2
    cases h
    obtain ⟨e1, e2⟩ := flat_rep rd h1
    obtain ⟨e3, e4⟩ := flats_rep rs h2
    subst e1 e3
    cases neg with
    | false => exact op_in_seq pins s σ H _ _ v u Q I rx ry ⟨a, _, rfl, hq, e2, e4, by simpa using p.now sm rep_bl⟩
    | true => exact op_notIn_seq pins s σ H _ _ v u Q I rx ry ⟨a, _, rfl, hq, e2, e4, by simpa using p.now sm rep_bl⟩
  · cases h
theorem om_ins {neg : Bool} (hu : X.A.units + 65 < cLine) : OpM X E (compareOp (inOp neg)) (gIn neg) := by
  rintro pins s σ H x y v u Q I rx ry ⟨W, m, d, e, sm, rd, re, p⟩
  unfold gIn at p
  split at p
  · rename_i x' y'
    rw [rd.str'] at rx; rw [re.str'] at ry
    unfold inStr at p
    split at p
    · rename_i c hc
      obtain ⟨⟨l⟩⟩ := x'
      simp only at hc
      subst hc
      cases neg with
      | false => exact op_in_sign pins s σ H _ _ v u Q I rx ry ⟨c, _, rfl, rfl, by simpa using p.now sm rep_bl⟩
      | true => exact op_notIn_sign pins s σ H _ _ v u Q I rx ry ⟨c, _, rfl, rfl, by simpa using p.now sm rep_bl⟩
    · cases neg with
      | false => exact op_in_str pins s σ H _ _ v u Q I rx ry ⟨_, _, rfl, rfl, by simpa using p.now sm rep_bl⟩
      | true => exact op_notin_str pins s σ H _ _ v u Q I rx ry ⟨_, _, rfl, rfl, by simpa using p.now sm rep_bl⟩
  · unfold inOf at p
    split at p
    · rename_i ds _
      obtain ⟨a, vs, rfl, q1, q2⟩ := re.tup'
      cases h : flatIn d ds with
      | none => rw [h] at p; exact p.elim
      | some b => rw [h] at p; exact om_flatIn I rx ry sm rd q2 (.inr q1) h p
    · split at p
      · rename_i ds hl
        obtain ⟨a, vs, rfl, q1, q2⟩ := sm.lst re hl
        split at p
        · rename_i b h
          exact om_flatIn I rx ry sm rd q2 (.inl q1) h p
        · cases h : inSeq m d ds with
          | none => rw [h] at p; exact p.elim
          | some b =>
            rw [h] at p
            unfold inSeq at h
            split at h
            · rename_i p1 ps h1 h2
              cases h
              obtain ⟨a1, a2, a3⟩ := toP_ok sm 60 d x p1 rd h1
              obtain ⟨b1, b2, b3⟩ := toP_all (toP_ok sm 59) ds vs ps q2 h2
              have s1 : SeqAt.shaped p1 = true := by
                unfold SeqAt.shaped
                rw [a2, decide_eq_true (by omega)]; rfl
              have s2 : SeqAt.shaped (.list ps) = true := by
                unfold SeqAt.shaped
                have e1 : PyData.canLay0 (.list ps) = true := b2
                have e2 : PyData.depth (.list ps) ≤ 60 := Nat.succ_le_succ b3
                rw [e1, decide_eq_true (by omega)]; rfl
              cases neg with
              | false => exact op_inD hu pins s σ H _ _ v u Q I rx ry ⟨p1, ps, a1, .lst q1 b1, s1, s2, by simpa using p.now sm rep_bl⟩
              | true => exact op_notInD hu pins s σ H _ _ v u Q I rx ry ⟨p1, ps, a1, .lst q1 b1, s1, s2, by simpa using p.now sm rep_bl⟩
            · cases h
      · exact p.elim
theorem om_in (hu : X.A.units + 65 < cLine) : OpM X E (compareOp .In) (gIn false) := om_ins (neg := false) hu
end
section
variable {X : Cx} {E : XK}
end

/-! ### subscripts -/
def oR (m : Mem) : Option D → R D
  | some d => .ok d m
  | none => .stk
def ixOf (m : Mem) (d : D) (i : Int) : Option D := match d with
  | .tup ds => atI ds i
  | .str z => if z.length ≤ sizeLine then (atI z.cps.toList i).map fun c => .str ⟨#[c]⟩ else none
  | d => (lstOf m d).bind fun ds => atI ds i
def gIx (d e : D) (m : Mem) : R D := match e with
  | .int i => oR m (ixOf m d i)
  | _ => .stk
def cutD (xs : List D) (lo hi : Option Int) : List D := (xs.drop (HT.sIx xs.length 0 lo)).take (HT.sIx xs.length xs.length hi - HT.sIx xs.length 0 lo)
def lR (al : Bool) (m : Mem) : Option (List D) → R D
  | some ds => mkL al ds m
  | none => .stk
def gSl (al : Bool) (d : D) (lo hi : Option Int) (m : Mem) : R D := match d with
  | .str z => if z.length ≤ sizeLine then .ok (.str (cutS z lo hi)) m else .stk
  | .tup ds => .ok (.tup (cutD ds lo hi)) m
  | d => lR al m ((lstOf m d).map fun ds => cutD ds lo hi)
section
variable {X : Cx} {E : XK}
theorem atI_rep {W : Wd} {H : Hp} {ds : List D} {vs : List V} {i : Int} {d : D} (r : Reps X.K W H ds vs) (h : atI ds i = some d) : ∃ v, atI vs i = some v ∧ Rep X.K W H d v := by
  unfold atI at h ⊢
  rw [r.length]
  cases hj : ixN ds.length i with
  | none => rw [hj] at h; cases h
  | some j => rw [hj] at h; exact r.get h
theorem cut_rep {W : Wd} {H : Hp} {ds : List D} {vs : List V} {lo hi : Option Int} (r : Reps X.K W H ds vs) : Reps X.K W H (cutD ds lo hi) (cutV vs lo hi) := by
  unfold cutD cutV
  rw [r.length]
  exact (r.drop _).take _
theorem im_ix : IxR X (rM X.K X.mg E gIx) := by
  rintro value slice pins s σ H x y v u Q I rx ry ⟨W, m, d, e, sm, rd, re, p⟩ hs
  cases e <;> try exact p.elim
  rename_i i
  rw [re.int'] at ry
  replace p : Post X.K X.mg E (Rep X.K) W H Q (oR m (ixOf m d i)) := p
  cases h : ixOf m d i with
  | none => rw [h] at p; exact p.elim
  | some z =>
    rw [h] at p
    replace p : Post X.K X.mg E (Rep X.K) W H Q (.ok z m) := p
    have lst : ∀ ds, lstOf m d = some ds → atI ds i = some z → wpAny (model X.prog X.w) X.A (subscriptTail value slice v u) (EP X pins σ Q) X.xe s := fun ds h1 h2 => by
      obtain ⟨a, vs, rfl, q1, q2⟩ := sm.lst rd h1
      obtain ⟨w, k1, k2⟩ := atI_rep q2 h2
      exact ix_list value slice pins s σ H _ _ v u Q I rx ry ⟨a, vs, i, w, rfl, rfl, q1, k1, p.now sm k2⟩ hs
    cases d with
    | tup ds =>
      obtain ⟨a, vs, rfl, q1, q2⟩ := rd.tup'
      obtain ⟨w, k1, k2⟩ := atI_rep q2 h
      exact ix_tup value slice pins s σ H _ _ v u Q I rx ry ⟨a, vs, i, w, rfl, rfl, q1, k1, p.now sm k2⟩ hs
    | str t =>
      rw [rd.str'] at rx
      unfold ixOf at h
      by_cases hz : t.length ≤ sizeLine
      · simp only [hz, if_true] at h
        cases hc : atI t.cps.toList i with
        | none => rw [hc] at h; cases h
        | some c =>
          rw [hc] at h
          cases h
          exact ix_str value slice pins s σ H _ _ v u Q I rx ry ⟨t, i, c, rfl, rfl, hz, hc, p.now sm rep_str⟩ hs
      · simp only [hz, if_false] at h
        cases h
    | lst ds => exact lst ds rfl h
    | scr ds => exact lst ds rfl h
    | ref j =>
      have h : (lstOf m (.ref j)).bind (fun ds => atI ds i) = some z := h
      cases hl : lstOf m (.ref j) with
      | none => rw [hl] at h; cases h
      | some ds => rw [hl] at h; exact lst ds hl h
    | _ => cases h
theorem sm_sl (al : Bool) : SlR X (rSM X.K X.mg E (gSl al)) := by
  rintro pins s σ H x v vl vu lo hi sl Q I rx hs pl pu ⟨W, m, d, sm, rd, p⟩
  have lst : ∀ ds, lstOf m d = some ds → Post X.K X.mg E (Rep X.K) W H Q (mkL al (cutD ds lo hi) m) → ∃ T id, typeLookup (.type T) "__getitem__" = pure (some (.builtin id)) ∧ s.TypeIs v T ∧ wpAny (model X.prog X.w) X.A (getItem v (.ref sl)) (EP X pins σ Q) X.xe s := fun ds h1 p => by
    obtain ⟨a, vs, rfl, q1, q2⟩ := sm.lst rd h1
    exact sl_list pins s σ H _ v vl vu lo hi sl Q I rx hs pl pu ⟨a, vs, rfl, q1, fun pp hp => sm.newL hp (cut_rep q2) p⟩
  cases d with
  | str z =>
    rw [rd.str'] at rx
    unfold gSl at p
    by_cases hz : z.length ≤ sizeLine
    · simp only [hz, if_true] at p
      exact sl_str pins s σ H _ v vl vu lo hi sl Q I rx hs pl pu ⟨z, rfl, hz, p.now sm rep_str⟩
    · simp only [hz, if_false] at p
      exact p.elim
  | tup ds =>
    obtain ⟨a, vs, rfl, q1, q2⟩ := rd.tupF'
    have p : Post X.K X.mg E (Rep X.K) W H Q (.ok (.tup (cutD ds lo hi)) m) := p
    refine sl_tupF pins s σ H _ v vl vu lo hi sl Q I rx hs pl pu ⟨a, vs, rfl, q1.t, fun hw => ?_, fun _ pp oo hp ho => sm.newT hp ho (cut_rep q2) p⟩
    have e : cutD ds lo hi = ds := by
      unfold cutD
      rw [q2.length] at hw
      rw [hw.1, hw.2]
      simp
    rw [e] at p
    exact p.now sm (rep_tup q1 q2)
  | lst ds => exact lst ds rfl p
  | scr ds => exact lst ds rfl p
  | ref j =>
    have p : Post X.K X.mg E (Rep X.K) W H Q (lR al m ((lstOf m (.ref j)).map fun ds => cutD ds lo hi)) := p
    cases hl : lstOf m (.ref j) with
    | none => rw [hl] at p; exact p.elim
    | some ds => rw [hl] at p; exact lst ds hl p
  | _ => exact p.elim
end

/-! ### o[i] = v -/
def setL (m : Mem) (i : Nat) (k : Int) (d : D) : R Unit := match lstC m[i]? with
  | some ds => match ixN ds.length k with
    | some j => .ok () (m.set i (.lst (ds.set j d)))
    | none => .stk
  | none => .stk
def gSet (o i d : D) (m : Mem) : R Unit := match o, i with
  | .ref j, .int k => setL m j k d
  | _, _ => .stk
def gSubT (co ci : EM) : GM := fun d η m => (co η m).bind fun o m1 => (ci η m1).bind fun i m2 => (gSet o i d m2).bind fun _ m3 => .ok η m3
def rSetM (K : PySem.W.Frag) (mg : Str → Option Value) (E : XK) : V → V → V → Hp → (Hp → Prop) → Prop := fun o i v H Q => ∃ W m do' di d, Sim K mg W H m ∧ Rep K W H do' o ∧ Rep K W H di i ∧ Rep K W H d v ∧ Post K mg E (fun _ _ _ (_ : Unit) => True) W H (fun _ H' => Q H') (gSet do' di d m)
section
variable {X : Cx} {E : XK} {pos : Pos}
theorem set_m : PSet X (rSetM X.K X.mg E) := by
  rintro pins s σ H o i v ov iv u Q I ro ri rv ⟨W, m, do', di, d, sm, r1, r2, r3, p⟩
  unfold gSet at p
  split at p
  · rename_i j k
    obtain ⟨a, rfl, e2⟩ := r1.ref'
    rw [r2.int'] at ri
    unfold setL at p
    split at p
    · rename_i ds hl
      split at p
      · rename_i t ht
        have hc : m[j]? = some (.lst ds) := by
          cases hm : m[j]? with
          | none => rw [hm] at hl; cases hl
          | some c => cases c <;> (rw [hm] at hl; cases hl) <;> rfl
        obtain ⟨vs, q1, q2⟩ := sm.cell j a _ e2 hc
        have ha : a ∈ W.i := List.mem_of_getElem? e2
        refine set_list pins s σ H _ _ v ov iv u Q I ro ri rv ⟨a, vs, k, t, rfl, rfl, q1, by rw [q2.length]; exact ht, ?_⟩
        have ex : Ext W H W (upd H a (.lst (vs.set t v))) := Ext.mut ha q1 rfl
        exact p () W _ ex (sm.mut e2 ⟨vs.set t v, upd_same, ((q2.ext ex).set t (r3.ext ex))⟩) True.intro
      · exact p.elim
    · exact p.elim
  · exact p.elim
theorem mg_sub {vs : List Nat} {o i : Expr} {co ci : EM} (ho : MEx X E o co) (hi : MEx X E i ci)
    (ha : ∀ v, assign (.Subscript o i pos) X.env v = (do
      let ov ← holding [v] (eval o X.env)
      let iv ← holding [v, ov] (eval i X.env)
      standAt pos
      holding [v, ov, iv] (setItem ov iv v)
      release [v, ov, iv] []) := by intro _; rfl) : MG X E Rep vs (.Subscript o i pos) (gSubT co ci) := by
  refine ⟨fun pins s σ H v u Q I r h => (pg_sub ho hi (set_m (E := E)) ha).run pins s σ H v u Q I r ?_⟩
  obtain ⟨W, η, m, d, s, n, rp, p⟩ := h
  refine ⟨W, η, m, s, n, (Post.bind (Rl := Rep X.K) p).imp fun x H1 ⟨W1, d1, m1, e1, s1, r1, p1⟩ => ?_⟩
  refine ⟨W1, η, m1, s1, n.ext e1, (Post.bind (Rl := Rep X.K) p1).imp fun y H2 ⟨W2, d2, m2, e2, s2, r2, p2⟩ => ?_⟩
  refine ⟨W2, m2, d1, d2, d, s2, r1.ext e2, r2, (rp.ext e1).ext e2, (Post.bind (Rl := fun _ _ _ (_ : Unit) => True) p2).imp fun z H3 ⟨W3, _, m3, e3, s3, _, p3⟩ => ?_⟩
  exact p3.now s3 ⟨((n.ext e1).ext e2).ext e3, rfl⟩
end

/-! ### built-ins -/
def lenOf (m : Mem) : D → Option Nat
  | .str x => if x.length ≤ sizeLine then some x.length else none
  | .tup ds => some ds.length
  | d => (lstOf m d).map List.length
def bLen (ds : List D) (m : Mem) : R D := match ds with
  | [d] => match lenOf m d with
    | some n => .ok (.int n) m
    | none => .stk
  | _ => .stk
def seqOf (m : Mem) : D → Option (List D)
  | .tup ds => some ds
  | d => lstOf m d
def bList (al : Bool) (ds : List D) (m : Mem) : R D := match ds with
  | [d] => lR al m (seqOf m d)
  | _ => .stk
def bTuple (ds : List D) (m : Mem) : R D := match ds with
  | [d] => match seqOf m d with
    | some ds => .ok (.tup ds) m
    | none => .stk
  | _ => .stk
def strOf : D → Option Str
  | .str i => some i
  | _ => none
section
variable {X : Cx} {E : XK}
theorem Sim.seq {K : PySem.W.Frag} {mg : Str → Option Value} {W : Wd} {H : Hp} {m : Mem} {d : D} {v : V} {ds : List D} (s : Sim K mg W H m) (r : Rep K W H d v) (h : seqOf m d = some ds) : ∃ a vs, v = .ref a ∧ (SqL K H a vs ∨ SqT K H a vs) ∧ Reps K W H ds vs := by
  unfold seqOf at h
  split at h
  · cases h
    obtain ⟨a, vs, rfl, q1, q2⟩ := r.tup'
    exact ⟨a, vs, rfl, .inr q1, q2⟩
  · obtain ⟨a, vs, rfl, q1, q2⟩ := s.lst r h
    exact ⟨a, vs, rfl, .inl q1, q2⟩
theorem cm_len : CallR X (.builtin "len") (rCM X.K X.mg E bLen) := by
  rintro pins s σ H xs us Q I rv ⟨W, m, ds, sm, rs, p⟩
  unfold bLen at p
  split at p
  · rename_i d
    obtain ⟨v, vr, rfl, r1, r2⟩ := rs.cons'
    rw [r2.nil'] at rv
    split at p
    · rename_i n hn
      unfold lenOf at hn
      split at hn
      · rename_i x
        rw [r1.str'] at rv
        split at hn
        · rename_i hz
          cases hn
          exact call_len_str pins s σ H _ us Q I rv ⟨x, rfl, hz, p.now sm rep_int⟩
        · cases hn
      · rename_i ds
        cases hn
        obtain ⟨a, vs, rfl, q1, q2⟩ := r1.tup'
        exact call_len_seq pins s σ H _ us Q I rv ⟨a, vs, rfl, .inr q1, by rw [q2.length]; exact p.now sm rep_int⟩
      · cases hl : lstOf m d with
        | none => rw [hl] at hn; cases hn
        | some ds =>
          rw [hl] at hn
          cases hn
          obtain ⟨a, vs, rfl, q1, q2⟩ := sm.lst r1 hl
          exact call_len_seq pins s σ H _ us Q I rv ⟨a, vs, rfl, .inl q1, by rw [q2.length]; exact p.now sm rep_int⟩
    · exact p.elim
  · exact p.elim
theorem cm_list (al : Bool) : CallR X (.type "list") (rCM X.K X.mg E (bList al)) := by
  rintro pins s σ H xs us Q I rv ⟨W, m, ds, sm, rs, p⟩
  unfold bList at p
  split at p
  · rename_i d
    obtain ⟨v, vr, rfl, r1, r2⟩ := rs.cons'
    rw [r2.nil'] at rv
    cases h : seqOf m d with
    | none => rw [h] at p; exact p.elim
    | some ds =>
      rw [h] at p
      obtain ⟨a, vs, rfl, q1, q2⟩ := sm.seq r1 h
      exact call_list_of pins s σ H _ us Q I rv ⟨a, vs, rfl, q1, fun pp hp => sm.newL hp q2 p⟩
  · exact p.elim
theorem cm_tuple : CallR X (.type "tuple") (rCM X.K X.mg E bTuple) := by
  rintro pins s σ H xs us Q I rv ⟨W, m, ds, sm, rs, p⟩
  unfold bTuple at p
  split at p
  · rename_i d
    obtain ⟨v, vr, rfl, r1, r2⟩ := rs.cons'
    rw [r2.nil'] at rv
    split at p
    · rename_i ds h
      unfold seqOf at h
      split at h
      · cases h
        obtain ⟨a, vs, rfl, q1, q2⟩ := r1.tupF'
        exact call_tupleF pins s σ H _ us Q I rv ⟨a, vs, rfl, .inr ⟨q1.t, p.now sm (rep_tup q1 q2)⟩⟩
      · obtain ⟨a, vs, rfl, q1, q2⟩ := sm.lst r1 h
        exact call_tupleF pins s σ H _ us Q I rv ⟨a, vs, rfl, .inl ⟨q1, fun pp oo hp ho => sm.newT hp ho q2 p⟩⟩
    · exact p.elim
  · exact p.elim
theorem strs_rep {W : Wd} {H : Hp} : ∀ {ds : List D} {vs : List V} {bs : List Str}, Reps X.K W H ds vs → mapO strOf ds = some bs → vs = bs.map V.str
  | [], vs, bs, r, h => by rw [r.nil']; cases h; rfl
  | d :: ds, vs, bs, r, h => by
    obtain ⟨v, vr, rfl, r1, r2⟩ := r.cons'
    obtain ⟨a, as, rfl, h1, h2⟩ := mapO_cons h
    rw [strs_rep r2 h2]
    cases d <;> cases h1
    rw [r1.str']; rfl
end
end Mir

/-! Mir, methods, sources, defs, calls. -/
namespace Mir
open PySem PySem.Spec PyProof.Rows L2

/-! ### methods of built-in types -/
def isTy (T : String) (m : Mem) (d : D) : Bool := match d with
  | .str _ => T == "str"
  | .tup _ => T == "tuple"
  | d => T == "list" && (lstOf m d).isSome
def mBM (T : String) (g : D → List D → Mem → R D) (o : EM) (a : AM) : EM := fun η m => (o η m).bind fun x m1 => if isTy T m1 x = true then (a η m1).bind fun xs m2 => g x xs m2 else .stk
def tyF (K : PySem.W.Frag) (T : String) (x : V) (H : Hp) : Prop := tyV K T x H ∨ (T = "tuple" ∧ ∃ a xs, x = .ref a ∧ SqF K H a xs)
def rMM (K : PySem.W.Frag) (mg : Str → Option Value) (E : XK) (g : D → List D → Mem → R D) : V → List V → Hp → VK → Prop := fun x xs H Q => ∃ W m d ds, Sim K mg W H m ∧ Rep K W H d x ∧ Reps K W H ds xs ∧ Post K mg E (Rep K) W H Q (g d ds m)
section
variable {X : Cx} {E : XK} {o e : Expr} {es : List Expr} {name : Str} {apos cpos : Pos} {T id : String} {g : D → List D → Mem → R D} {co : EM} {ca : AM}
theorem tyF_is {pins : List (Addr × Obj)} {σ : SL} {H : Hp} {s : Shared} {T : String} {x : V} {v : Value} (I : L2.Inv X pins σ H s) (r : L2.RelV x v) (ty : tyF X.K T x H) :
    s.TypeIs v T ∧ ∀ a, v = .ref a → ∃ ob, s.heap.get? a = some ob ∧ ob.dict = none := by
  rcases ty with ty | ⟨rfl, a, xs, rfl, h⟩
  · exact tyV_is I r ty
  · cases r
    rcases h with ⟨ob, h, hd, hc⟩ | ⟨ob, its, n, h1, h2, h3, _⟩
    · have k := (I.hok a _ h).1
      exact ⟨⟨ob, k, hc⟩, fun b e => by cases e; exact ⟨ob, k, hd⟩⟩
    · exact ⟨⟨ob, I.kIn a ob h1, h2⟩, fun b e => by cases e; exact ⟨ob, I.kIn _ ob h1, h3⟩⟩
theorem isTy_ok {W : Wd} {H : Hp} {m : Mem} {d : D} {x : V} (sm : Sim X.K X.mg W H m) (r : Rep X.K W H d x) (h : isTy T m d = true) : tyF X.K T x H := by
  have lst : (T == "list" && (lstOf m d).isSome) = true → tyF X.K T x H := fun h => by
    rw [Bool.and_eq_true] at h
    obtain ⟨ds, hl⟩ := Option.isSome_iff_exists.mp h.2
    obtain ⟨a, vs, rfl, q1, q2⟩ := sm.lst r hl
    exact .inl (.inl ⟨by simpa using h.1, vs, q1⟩)
  cases d with
  | str z => rw [r.str']; exact .inl (show T = "str" by simpa [isTy] using h)
  | tup ds =>
    obtain ⟨a, vs, rfl, q1, q2⟩ := r.tupF'
    exact .inr ⟨by simpa [isTy] using h, a, vs, rfl, q1⟩
  | _ => exact lst h
theorem me_bm (pa : PlainAttrs T) (slot : Slot T name id) (hty : typeOf (.builtin id) = pure (.type "method_descriptor")) (hm : MtR X id (rMM X.K X.mg E g)) (ho : MEx X E o co) (ha : MA X E (e :: es) ca)
    (hbase : attributeBase o name X.env (eval o X.env) = eval o X.env := by rfl)
    (hfew : ((backTo cpos (starEach (e :: es) X.env)).all (fun x => !x.1) && (backToKw cpos (keywordEach [] X.env)).all (fun x => x.1.isSome)
      && decide ((e :: es).length + ([] : List Keyword).length + (if ([] : List Keyword).isEmpty then 0 else 1) < 30)) = true := by rfl)
    (hline : (apos.endLine == cpos.line) = true := by rfl) (hs : starEach (e :: es) X.env = (false, eval e X.env) :: starEach es X.env := by rfl) (hplain : (backTo cpos (starEach es X.env)).any (·.1) = false := by rfl) :
    MEx X E (.Call (.Attribute o name apos) (e :: es) [] cpos) (mBM T g co ca) := by
  refine ⟨fun pins s σ H Q I h => ?_⟩
  have h2 : rdE X.K X.mg E co σ H (fun x H1 => tyF X.K T x H1 ∧ rdA X.K X.mg E ca σ H1 fun xs H2 => rMM X.K X.mg E g x xs H2 Q) := by
    obtain ⟨W, η, m, s, n, p⟩ := h
    refine ⟨W, η, m, s, n, (Post.bind (Rl := Rep X.K) p).imp fun x H1 ⟨W1, d, m1, e1, s1, r1, p1⟩ => ?_⟩
    by_cases hT : isTy T m1 d = true
    · rw [if_pos hT] at p1
      refine ⟨isTy_ok s1 r1 hT, W1, η, m1, s1, n.ext e1, (Post.bind (Rl := Reps X.K) p1).imp fun xs H2 ⟨W2, ds, m2, e2, s2, r2, p2⟩ => ⟨W2, m2, d, ds, s2, r1.ext e2, r2, p2⟩⟩
    · rw [if_neg hT] at p1
      exact p1.elim
  refine wpAny_Call_method_late hbase hfew hline rfl (thn (ho.run pins s σ H _ I h2) fun v s1 ⟨x, H1, I1, r1, ty, q1⟩ => ?_)
  obtain ⟨k1, k2⟩ := tyF_is I1 r1 ty
  refine ⟨T, id, pa, slot, hty, k1, k2, ?_⟩
  have hA := ha.run cpos pins s1 σ H1 _ I1 q1
  rw [hs] at hA ⊢
  refine Calls.callWith_builtin (by show (false || (backTo cpos (starEach es X.env)).any (·.1)) = false; rw [hplain] <;> rfl) (Calls.evalArgs_plain ?_)
  exact thn hA fun us s2 ⟨vs, H2, I2, r2, q2⟩ => hm pins s2 σ H2 x vs v us Q I2 r1 r2 q2
end
def gJoin (d : D) (ds : List D) (m : Mem) : R D := match d, ds with
  | .str a, [e] => match (seqOf m e).bind (mapO strOf) with
    | some ys => if (ys.map (·.length)).sum + ys.length * a.length ≤ 16777216 then .ok (.str (Txt.join a ys)) m else .stk
    | none => .stk
  | _, _ => .stk
section
variable {X : Cx} {E : XK}
theorem mm_join : MtR X "str.join" (rMM X.K X.mg E gJoin) := by
  rintro pins s σ H x xs v us Q I rx rxs ⟨W, m, d, ds, sm, rd, rds, p⟩
  unfold gJoin at p
  split at p
  · rename_i a e
    rw [rd.str'] at rx
    obtain ⟨w, wr, rfl, r1, r2⟩ := rds.cons'
    rw [r2.nil'] at rxs
    split at p
    · rename_i ys hy
      cases hs : seqOf m e with
      | none => rw [hs] at hy; cases hy
      | some zs =>
        rw [hs] at hy
        obtain ⟨b, vs, rfl, q1, q2⟩ := sm.seq r1 hs
        have ev := strs_rep q2 hy
        subst ev
        split at p
        · rename_i hl
          exact mt_join pins s σ H _ _ v us Q I rx rxs ⟨a, b, ys, rfl, rfl, q1, hl, p.now sm rep_str⟩
        · exact p.elim
    · exact p.elim
  · exact p.elim
theorem Reps.dropLast {W : Wd} {H : Hp} {ds : List D} {vs : List V} (r : Reps X.K W H ds vs) : Reps X.K W H ds.dropLast vs.dropLast := by
  rw [List.dropLast_eq_take, List.dropLast_eq_take, r.length]
  exact r.take _
end

/-! ### isinstance of a built-in class -/
section
variable {X : Cx} {E : XK}
end

/-! ### sources -/
def srcL (ds : List D) : Src := fun k _ => some ds[k]?
def srcLP (ds : List D) : Src × Nat := (srcL ds, ds.length)
def rngD (lo : Int) (n : Nat) : List D := (List.range n).map fun k => .int (lo + (k : Nat))
@[irreducible] def rngB (j : Int) : Bool := decide (-(2 ^ 62) ≤ j ∧ j < 2 ^ 62)
theorem rngB_iff (j : Int) : rngB j = true ↔ (-(2 ^ 62) ≤ j ∧ j < 2 ^ 62) := by unfold rngB; exact decide_eq_true_iff
def mRng1 (a : EM) : IM := fun η m => (a η m).bind fun x m1 => match x with
  | .int j => if rngB j = true then .ok (srcLP (rngD 0 j.toNat)) m1 else .stk
  | _ => .stk
section
variable {X : Cx} {E : XK} {tg it : Expr} {K : PySem.W.Frag} {mg : Str → Option Value}
theorem _root_.L2.PI.imp {X : Cx} {tg it : Expr} {w w' : TI} (h : PI X tg it w) (k : ∀ σ H R, w' σ H R → w σ H R) : PI X tg it w' := ⟨fun pins s σ H R I q => h.run pins s σ H R I (k σ H R q)⟩
theorem _root_.L2.PI.or {X : Cx} {tg it : Expr} {w w' : TI} (h : PI X tg it w) (h' : PI X tg it w') : PI X tg it (fun σ H R => w σ H R ∨ w' σ H R) := ⟨fun pins s σ H R I q => by
  rcases q with q | q
  · exact h.run pins s σ H R I q
  · exact h'.run pins s σ H R I q⟩
theorem rngD_get {lo : Int} {n k : Nat} {d : D} (h : (rngD lo n)[k]? = some d) : k < n ∧ d = .int (lo + (k : Nat)) := by
  unfold rngD at h
  rw [List.getElem?_map] at h
  cases hk : (List.range n)[k]? with
  | none => rw [hk] at h; cases h
  | some j =>
    rw [hk] at h
    have := List.getElem?_eq_some_iff.mp hk
    obtain ⟨h1, h2⟩ := this
    rw [List.getElem_range] at h2
    rw [List.length_range] at h1
    subst h2
    cases h
    exact ⟨h1, rfl⟩
theorem rngD_none {lo : Int} {n k : Nat} (h : (rngD lo n)[k]? = none) : n ≤ k := by
  have := List.getElem?_eq_none_iff.mp h
  unfold rngD at this
  rw [List.length_map, List.length_range] at this
  exact this
theorem jok_rng {W : Wd} {H : Hp} {lo : Int} {n : Nat} : JOk K mg Rep W H (Itr lo n) (srcL (rngD lo n)) := by
  refine ⟨fun W' H' m k d _ s h => ?_, fun W' H' m k _ s h => ?_⟩
  · obtain ⟨h1, rfl⟩ := rngD_get (Option.some.inj h)
    refine ⟨h1, fun x H2 hy => ?_⟩
    obtain ⟨rfl, rfl⟩ := hy
    exact ⟨W', Ext.refl _ _, s, rep_int⟩
  · exact rngD_none (Option.some.inj h)
theorem mi_rng1 {a : Expr} {ca : EM} {p pos : Pos} (hm : X.mg "range" = none) (hg : Gl X "range") (ha : MEx X E a ca) (hs : starEach [a] X.env = [(false, eval a X.env)] := by rfl) : MI X E Rep tg (.Call (.Name "range" p) [a] [] pos) (mRng1 ca) := by
  refine (pi_range1 hg hm (ma_cons ha ma_nil hs) hs).imp fun σ H R ⟨W, η, m, s, n, p⟩ => ?_
  have q : Post X.K X.mg E (RlI X.K X.mg Rep) W H R ((mCons ca mNil η m).bind fun xs m1 => match xs with
    | [.int j] => if rngB j = true then .ok (srcLP (rngD 0 j.toNat)) m1 else .stk
    | _ => .stk) := by
    unfold mRng1 at p
    unfold mCons mNil
    cases h : ca η m with
    | ok d m1 => rw [h] at p; cases d <;> exact p
    | exc x m1 => rw [h] at p; exact p
    | stk => rw [h] at p; exact p
  refine ⟨W, η, m, s, n, (Post.bind (Rl := Reps X.K) q).imp fun xs H1 ⟨W1, ds, m1, e1, s1, r1, p1⟩ => ?_⟩
  split at p1
  · rename_i j
    obtain ⟨v, vr, rfl, k1, k2⟩ := r1.cons'
    rw [k2.nil', k1.int']
    split at p1
    · rename_i hj
      have hj := (rngB_iff j).mp hj
      exact ⟨j, rfl, hj.1, hj.2, p1.now s1 jok_rng⟩
    · exact p1.elim
  · exact p1.elim
end

/-! ### comprehensions -/
section
variable {X : Cx} {E : XK}
theorem mts_nil : PTs X [] (rdT X.K X.mg E mYes) := ⟨fun pins s σ H Q I h => pts_nil.run pins s σ H Q I (by
  obtain ⟨W, η, m, s, n, p⟩ := h
  exact p.now s rfl)⟩
theorem me_lc {Rx : RX} (al : Bool) {elt tg iter : Expr} {ifs : List Expr} {scope : Scope} (own : List (Str × Nat)) {pos : Pos} {ci : IM} {g : GM} {t : TM} {e : EM} (hc : X.calm = true) (hN : X.N.Nodup) (hi : MI X E Rx tg iter ci) (ok : BlkOk X.N X.env.scope scope own)
    (hg : ∀ (s : Shared) (H : Hp) (C : Addr) (cl : List (Str × Addr)) (fp : List Addr), MG (X.blk s H scope (compEnvC scope cl C X.env) fp) E0 Rx (own.map (·.2)) tg g) (ht : ∀ (s : Shared) (H : Hp) (C : Addr) (cl : List (Str × Addr)) (fp : List Addr), PTs (X.blk s H scope (compEnvC scope cl C X.env) fp) ifs (rdT X.K X.mg E0 t))
    (he : ∀ (s : Shared) (H : Hp) (C : Addr) (cl : List (Str × Addr)) (fp : List Addr), MEx (X.blk s H scope (compEnvC scope cl C X.env) fp) E0 elt e) (hs : ∀ x, foldedSetIterable iter X.env x = pure x := by intro _; rfl) :
    MEx X E (.ListComp elt [⟨tg, iter, ifs, 0⟩] scope pos) (mLc (own.map (·.2)) al ci g t e) := (pe_lc hc hN hi ok hg ht he hs).imp fun σ H Q h => lc_of h
theorem ms_setLc {Rx : RX} (al : Bool) {i : Nat} {y : Str} {py : Pos} {elt tg iter : Expr} {ifs : List Expr} {scope : Scope} (own : List (Str × Nat)) {pos spos : Pos} {ci : IM} {g : GM} {t : TM} {e : EM} (hc : X.calm = true) (hN : X.N.Nodup) (hy : X.N[i]? = some y) (hyl : X.env.scope.names.lookup y = some .local)
    (hsw : swapsWith (.ListComp elt [⟨tg, iter, ifs, 0⟩] scope pos) (some (.Name y py)) spos.line X.env = pure true) (hi : MI X E Rx tg iter ci) (ok : BlkOk X.N X.env.scope scope own)
    (hg : ∀ (s : Shared) (H : Hp) (C : Addr) (cl : List (Str × Addr)) (fp : List Addr), MG (X.blk s H scope (compEnvC scope cl C X.env) fp) E0 Rx (own.map (·.2)) tg g) (ht : ∀ (s : Shared) (H : Hp) (C : Addr) (cl : List (Str × Addr)) (fp : List Addr), PTs (X.blk s H scope (compEnvC scope cl C X.env) fp) ifs (rdT X.K X.mg E0 t))
    (he : ∀ (s : Shared) (H : Hp) (C : Addr) (cl : List (Str × Addr)) (fp : List Addr), MEx (X.blk s H scope (compEnvC scope cl C X.env) fp) E0 elt e) (hs : ∀ x, foldedSetIterable iter X.env x = pure x := by intro _; rfl) :
    MS X E (.Assign [.Name y py] (.ListComp elt [⟨tg, iter, ifs, 0⟩] scope pos) spos) (mAsg (mLc (own.map (·.2)) al ci g t e) (gNm i)) := (ps_setLc hc hN hy hyl hsw hi ok hg ht he hs).imp fun Dn σ H ⟨W, η, m, s, n, p⟩ =>
  lc_of ⟨W, η, m, s, n, (PostS.bind (Rl := Rep X.K) p).imp fun x H1 ⟨W1, d, m1, e1, s1, r1, p1⟩ => p1 _ W1 H1 (Ext.refl _ _) s1 ((n.ext e1).set r1)⟩
end

/-! ### defs -/
abbrev FM := List D → Mem → R D
def mFn (n N : Nat) (body : SM) : FM := fun ds m => if ds.length = n then (match body (ds.map some ++ List.replicate (N - ds.length) none) m with
  | .nxt _ m' => .ok .non m'
  | .ret d m' => .ok d m'
  | .exc x m' => .exc x m'
  | _ => .stk) else .stk
def sp0 (K : PySem.W.Frag) (mg : Str → Option Value) (fm : FM) : Sp := fun vs H Q _ => ∃ W m ds, Sim K mg W H m ∧ Reps K W H ds vs ∧ Post K mg E0 (Rep K) W H Q (fm ds m)
section
variable {P : Program} {w : World} {K : PySem.W.Frag} {mg : Str → Option Value} {base : Heap}
theorem renv_start {W : Wd} {H : Hp} {N : List Str} {ds : List D} {vs : List V} (r : Reps K W H ds vs) : REnv K W H (ds.map some ++ List.replicate (N.length - ds.length) none) (L2.start N vs) := by
  refine ⟨?_, fun i d h => ?_⟩
  · unfold L2.start
    rw [List.length_append, List.length_append, List.length_map, List.length_map, List.length_replicate, List.length_replicate, r.length]
  · by_cases hi : i < ds.length
    · rw [List.getElem?_append_left (by rw [List.length_map]; exact hi), List.getElem?_map, List.getElem?_eq_getElem hi] at h
      cases h
      obtain ⟨v, k1, k2⟩ := r.get (List.getElem?_eq_getElem hi)
      refine ⟨v, ?_, k2⟩
      unfold L2.start
      rw [List.getElem?_append_left (by rw [List.length_map, r.length]; exact hi), List.getElem?_map, k1]
      rfl
    · rw [List.getElem?_append_right (by rw [List.length_map]; omega), List.getElem?_replicate] at h
      split at h <;> cases h
theorem fn_ok0 {x qual : Str} {st : Stmt} {f : Addr} {fd : FuncData} {N ps : List Str} {k : Nat} {body : SM} (F : Fun K x qual st f fd) (S : FnScope N ps (defScope st))
    (h : ∀ (cdv : Value) (A : Around) (outer : List Env) (s : Shared) (H : Hp) (E : XK), Room k (A.deeper (envOfC qual (defScope st) s.heap.objs.size f cdv)) → MSs (cxOf CX0 P w K mg base N qual (defScope st) f cdv A outer s H E).nox E0 (defBody st) body) :
    FnOk P w K mg base CX0 (k + 1) f fd ps (sp0 K mg (mFn ps.length N.length body)) := by
  have hlen : ∀ {vs H Q E}, sp0 K mg (mFn ps.length N.length body) vs H Q E → vs.length = ps.length := fun {vs H Q E} ⟨W, m, ds, s, r, p⟩ => by
    unfold mFn at p
    split at p
    · rename_i hl
      rw [r.length]
      exact hl
    · exact p.elim
  refine F.ok S (fun vs H Q E q => hlen q) (fun cdv A outer s H vs Q E hr q => ?_)
  have hl := hlen q
  obtain ⟨W, m, ds, sm, r, p⟩ := q
  refine ⟨_, h cdv A outer s H E hr, W, ds.map some ++ List.replicate (N.length - ds.length) none, m, sm, renv_start r, ?_⟩
  unfold mFn at p
  rw [if_pos (by rw [← r.length]; exact hl)] at p
  revert p
  generalize body (ds.map some ++ List.replicate (N.length - ds.length) none) m = res
  intro p
  cases res with
  | nxt η m' => exact fun σ W' H' e s n => p .non W' H' e s rep_non
  | ret d m' => exact fun v W' H' e s n => p v W' H' e s n
  | exc x m' => exact p
  | brk η m' => exact p.elim
  | cnt η m' => exact p.elim
  | stk => exact p.elim
/-- a def of the module and its mirror -/
structure FnD (P : Program) (w : World) (K : PySem.W.Frag) (mg : Str → Option Value) (base : Heap) (k : Nat) (x : Str) (ps : List Str) (fm : FM) : Prop where
  ex : ∃ f fd, mg x = some (.ref f) ∧ PySem.W.keepIn K (.ref f) = true ∧ Binds K fd ps [] ∧ FnOk P w K mg base CX0 k f fd ps (sp0 K mg fm)
theorem FnD.mono {j k : Nat} {x : Str} {ps : List Str} {fm : FM} (h : FnD P w K mg base j x ps fm) (hk : j ≤ k) : FnD P w K mg base k x ps fm := by
  obtain ⟨f, fd, h1, h2, h3, h4⟩ := h.ex
  exact ⟨f, fd, h1, h2, h3, h4.mono hk⟩
end
def mCall (fm : FM) (a : AM) : EM := fun η m => (a η m).bind fun xs m1 => noX (fm xs m1)
section
variable {X : Cx} {E : XK} {k : Nat} {x : Str} {ps : List Str} {fm : FM} {p pos : Pos} {e : Expr} {es : List Expr} {ca : AM}
theorem me_call (F : FnD X.prog X.w X.K X.mg X.base k x ps fm) (hr : Room k X.A) (hg : Gl X x) (ha : MA X E (e :: es) ca) (hdb : (x == ("__debug__" : Str)) = false := by decide) (he : starEach (e :: es) X.env = (false, eval e X.env) :: starEach es X.env := by rfl) (hpl : (backTo pos (starEach es X.env)).any (·.1) = false := by rfl) :
    MEx X E (.Call (.Name x p) (e :: es) [] pos) (mCall fm ca) := by
  obtain ⟨f, fd, h1, h2, h3, h4⟩ := F.ex
  refine (pe_call h4 hr hg h1 h2 h3 .nil pass0 ha hdb he hpl).imp fun σ H Q ⟨W, η, m, s, n, p⟩ => ?_
  refine ⟨W, η, m, s, n, (Post.bind (Rl := Reps X.K) p).imp fun xs H1 ⟨W1, ds, m1, e1, s1, r1, p1⟩ => ?_⟩
  refine ⟨W1, m1, ds, s1, by rw [List.append_nil]; exact r1, Post.nox p1⟩
end
end Mir

/-! Mir, calls with keywords and defaults. -/
namespace Mir
open PySem PySem.Spec PyProof.Rows L2

/-- picked by places -/
def arr {α : Type} (ix : List Nat) (l : List α) : List α := ix.filterMap fun i => l[i]?
theorem arr_reps {K : PySem.W.Frag} {W : Wd} {H : Hp} {ds : List D} {vs : List V} (r : Reps K W H ds vs) : ∀ ix : List Nat, Reps K W H (arr ix ds) (arr ix vs)
  | [] => reps_nil
  | i :: ix => by
    have ih := arr_reps r ix
    unfold arr at ih ⊢
    rw [List.filterMap_cons, List.filterMap_cons]
    cases h : ds[i]? with
    | none =>
      have : vs[i]? = none := by
        rw [List.getElem?_eq_none_iff] at h ⊢
        rw [r.length]
        exact h
      rw [this]
      exact ih
    | some d =>
      obtain ⟨v, k1, k2⟩ := r.get h
      rw [k1]
      exact reps_cons k2 ih
theorem arr_vals {vs : List V} {us : List Value} (r : Vals vs us) : ∀ ix : List Nat, Vals (arr ix vs) (arr ix us)
  | [] => .nil
  | i :: ix => by
    have ih := arr_vals r ix
    unfold arr at ih ⊢
    rw [List.filterMap_cons, List.filterMap_cons]
    cases h : vs[i]? with
    | none =>
      rw [Vals.none_of r h]
      exact ih
    | some d =>
      obtain ⟨v, k1, k2⟩ := Vals.get r h
      rw [k1]
      exact .cons k2 ih
/-- a call by n places, the keywords ks, the defaults dd behind -/
structure FnK (P : Program) (w : World) (K : PySem.W.Frag) (mg : Str → Option Value) (base : Heap) (k : Nat) (x : Str) (n : Nat) (ks : List Str) (ix : List Nat) (dd : List D) (fm : FM) : Prop where
  ex : ∃ f fd ps dvs dv, mg x = some (.ref f) ∧ PySem.W.keepIn K (.ref f) = true ∧ Vals dvs dv ∧ (∀ W H, Reps K W H dd dvs) ∧
    (∀ (s : Shared) (us ws : List Value), K.In s.heap → us.length = n → ws.length = ks.length → BindsTo s fd ⟨us, ks.zip ws⟩ (ps.zip (arr ix (us ++ ws ++ dv)))) ∧ FnOk P w K mg base CX0 k f fd ps (sp0 K mg fm)
abbrev MK (X : Cx) (E : XK) (e : List Keyword) (c : AM) : Prop := PK X e (rdA X.K X.mg E c)
section
variable {X : Cx} {E : XK} {k n : Nat} {x : Str} {ks : List Str} {ix : List Nat} {dd : List D} {fm : FM} {p pos kpos : Pos} {e : Expr} {es : List Expr} {kws : List Keyword} {ca cb : AM} {ce : EM} {nm : Option Str}
theorem mk_nil : MK X E [] mNil := pk_nil.imp fun σ H Q ⟨W, η, m, s, n, p⟩ => p.now s reps_nil
theorem mk_cons (ha : MEx X E e ce) (hr : MK X E kws cb) : MK X E (⟨nm, e, kpos⟩ :: kws) (mCons ce cb) := (pk_cons ha hr).imp fun _ _ _ h => cons_of h
end
end Mir

/-! Mir: while, a op= b, a, b = x, y, int, str, defaults. -/
namespace Mir
open PySem PySem.Spec PyProof.Rows L2

/-! ### while -/
section
variable {X : Cx} {E : XK} {pos : Pos}
end

/-! ### a op= e at a name; a, b = x, y -/
def mPar (i j : Nat) (a : AM) : SM := fun η m => (a η m).toS fun xs m1 => match xs with
  | [x, y] => .nxt ((η.set i (some x)).set j (some y)) m1
  | _ => .stk
section
variable {X : Cx} {E : XK} {pos : Pos} {e : Expr} {ce : EM}
theorem ms_par {i j : Nat} {x y : Str} {a b : Expr} {ta : AM} {px py pt : Pos} {kt k2 pt2} (hc : X.calm = true) (hN : X.N.Nodup) (hi : X.N[i]? = some x) (hj : X.N[j]? = some y) (hij : i ≠ j)
    (hx : X.env.scope.names.lookup x = some .local) (hy : X.env.scope.names.lookup y = some .local) (ha : MA X E [a, b] ta)
    (hw : swappedStores [.Tuple [.Name x px, .Name y py] kt pt] (.Tuple [a, b] k2 pt2) X.env = pure (some [x, y]) := by rfl)
    (hs : swapsWithSole [.Tuple [.Name x px, .Name y py] kt pt] (.Tuple [a, b] k2 pt2) pos.line X.env = pure false := by rfl) :
    MS X E (.Assign [.Tuple [.Name x px, .Name y py] kt pt] (.Tuple [a, b] k2 pt2) pos) (mPar i j ta) := (ps_par hc hN hi hj hij hx hy ha hw hs).imp fun Dn σ H ⟨W, η, m, s, n, p⟩ =>
  ⟨W, η, m, s, n, (PostS.bind (Rl := Reps X.K) p).imp fun vs H1 ⟨W1, ds, m1, e1, s1, r1, p1⟩ => by
    split at p1
    · rename_i d1 d2
      obtain ⟨v, vr, rfl, k1, k2⟩ := r1.cons'
      obtain ⟨w, vr2, rfl, k3, k4⟩ := k2.cons'
      rw [k4.nil']
      exact ⟨v, w, rfl, p1 _ W1 H1 (Ext.refl _ _) s1 (((n.ext e1).set k1).set k3)⟩
    · exact p1.elim⟩
end

/-! ### int, str -/
section
variable {X : Cx} {E : XK}
end

/-! ### a def with defaults -/
section
variable {P : Program} {w : World} {K : PySem.W.Frag} {mg : Str → Option Value} {base : Heap}
/-- a def as it stands behind the top, with the tuple of its defaults -/
structure FunT (K : PySem.W.Frag) (x qual : Str) (st : Stmt) (dvs : List V) (f : Addr) (fd : FuncData) : Prop where
  ex : ∃ (oc : Value) (od : Option Addr) (T : Addr) (o : Obj) (its : List Value) (n : Nat) (kV doc pm : Value) (an : Option Addr) (cdv ct : Value) (osl : Array (Option Value)),
    fd = PySem.W.fnOf x qual (defArgs st) (defBody st) (defScope st) (.ref T) kV doc pm an cdv ct ∧ K.lookup f = some ⟨oc, od, .func fd, osl⟩ ∧ PySem.W.codeIn K cdv qual = true ∧ K.lookup T = some o ∧ o.data = .seq its.toArray n ∧ Vals dvs its
  kp : PySem.W.keepIn K (.ref f) = true
end
end Mir

/-! Mir: min, max, sum. -/
namespace Mir
open PySem PySem.Spec PyProof.Rows L2

/-- of a list of ints -/
def minL : List Int → Option Int
  | [] => none
  | x :: xs => some (xs.foldl (fun a b => if b < a then b else a) x)
/-! ### tuples of ints -/
section
variable {prog : Program} {w : World} {A : Around} {E : Value → Shared → Prop} {s : Shared} {l : Addr} {its : List Value} {ns : List Int} {Q : Value → Shared → Prop}
end
section
variable {X : Cx} {E : XK}
end
end Mir

/-! Mir: f-strings, split, partition, a text times an int. -/
namespace Mir
open PySem PySem.Spec PyProof.Rows L2

section
variable {X : Cx} {E : XK}
inductive MJ (X : Cx) (E : XK) : List Expr → List EM → Prop where
  | nil : MJ X E [] []
  | cons {e : Expr} {c : EM} {es : List Expr} {cs : List EM} (h : MEx X E e c) (r : MJ X E es cs) : MJ X E (e :: es) (c :: cs)
end
end Mir

/-! Mir: zip and enumerate, over lists and tuples in any mix. -/
namespace Mir
open PySem PySem.Spec PyProof.Rows L2

/-- a list or a tuple -/
inductive SK where
  | l | t
def SqK (K : PySem.W.Frag) (H : Hp) (k : SK) (a : Addr) (xs : List V) : Prop := match k with
  | .l => SqL K H a xs
  | .t => SqT K H a xs
def IsIt (h : Heap) (k : SK) (it a : Addr) (i : Nat) : Prop := match k with
  | .l => h.IsListIter it a i
  | .t => h.IsTupleIter it a i
def IsSq (h : Heap) (k : SK) (a : Addr) (items : Array Value) : Prop := match k with
  | .l => h.IsList a items
  | .t => h.IsTuple a items
theorem IsIt.get {h : Heap} {k : SK} {it a : Addr} {i : Nat} (x : IsIt h k it a i) : ∃ o vs, h.get? it = some o ∧ o.data = .fields vs := by
  cases k with
  | l => obtain ⟨o, e, _, d⟩ := x; exact ⟨o, _, e, d⟩
  | t => obtain ⟨o, e, _, d⟩ := x; exact ⟨o, _, e, d⟩
theorem IsIt.at {h h' : Heap} {k : SK} {it a : Addr} {i : Nat} (x : IsIt h k it a i) (hk : ∀ o, h.get? it = some o → h'.get? it = some o) : IsIt h' k it a i := by
  cases k with
  | l => exact Heap.IsListIter.at x hk
  | t => exact Heap.IsTupleIter.at x hk
/-! ### zip -/
/-- how the data of a thing that is walked is read at a memory -/
def rdS1 : D → Mem → Option (List D)
  | .tup ds, _ => some ds
  | d, m => lstOf m d
section
variable {K : PySem.W.Frag} {mg : Str → Option Value}
def kindD : D → SK
  | .tup _ => .t
  | _ => .l
/-- a thing that is walked, at any later world -/
theorem walked {W W' : Wd} {H H' : Hp} {m : Mem} {d : D} {v : V} {ds : List D} (r : Rep K W H d v) (e : ExtZ W H W' H') (s : Sim K mg W' H' m) (h : rdS1 d m = some ds) : ∃ a vs, v = .ref a ∧ SqK K H' (kindD d) a vs ∧ Reps K W' H' ds vs := by
  have r' := r.extZ e
  cases d with
  | tup xs =>
    cases h
    obtain ⟨a, vs, e1, q1, q2⟩ := r'.tup'
    exact ⟨a, vs, e1, q1, q2⟩
  | lst xs => obtain ⟨a, vs, e1, q1, q2⟩ := s.lst r' (ds := ds) h; exact ⟨a, vs, e1, q1, q2⟩
  | scr xs => obtain ⟨a, vs, e1, q1, q2⟩ := s.lst r' (ds := ds) h; exact ⟨a, vs, e1, q1, q2⟩
  | ref i => obtain ⟨a, vs, e1, q1, q2⟩ := s.lst r' (ds := ds) h; exact ⟨a, vs, e1, q1, q2⟩
  | _ => cases h
end
section
variable {X : Cx} {E : XK} {pos : Pos}
end

/-! ### enumerate -/
theorem IsIt.ne {h : Heap} {k : SK} {it a : Addr} {i : Nat} {its : Array Value} (x : IsIt h k it a i) (p : IsSq h k a its) : a ≠ it := fun e => by
  subst e
  obtain ⟨o1, v1, e1, d1⟩ := x.get
  cases k with
  | l => obtain ⟨o, e, _, n, d⟩ := p; rw [e1] at e; cases e; rw [d1] at d; cases d
  | t => obtain ⟨o, e, _, n, d⟩ := p; rw [e1] at e; cases e; rw [d1] at d; cases d
section
variable {X : Cx} {E : XK} {pos : Pos}
end
end Mir

/-! Mir: pop(i), index in lists, sorted texts, isinstance of tuples of classes, repeated lists and tuples, xs[i] op= e. -/
namespace Mir
open PySem PySem.Spec PyProof.Rows L2

/-! ### pop(i) -/
section
variable {X : Cx} {E : XK}
/-! ### index in a list -/
end
/-! ### sorted texts -/
section
variable {X : Cx} {E : XK}
/-! ### isinstance of a tuple of built-in classes -/
theorem Ext.fr {W : Wd} {H : Hp} {p : Addr} {o : HO} (h : H p = none) : Ext W H W (upd H p o) := Ext.fresh h
end

/-! ### repeated lists and tuples -/
section
variable {X : Cx} {E : XK} {pos : Pos}
/-! ### xs[i] op= e -/
end
end Mir

/-! Mir: tuples repeated. -/
namespace Mir
open PySem PySem.Spec PyProof.Rows L2
section
variable {X : Cx} {E : XK}
end

/-! ### nothing is known of a body -/
/-! ### one of several defs is called -/
section
variable {X : Cx} {E : XK} {k : Nat}
end
end Mir

/-! Mir: list(zip(a, b)). -/
namespace Mir
open PySem PySem.Spec PyProof.Rows L2
abbrev ZipN (h : Heap) (z TI TO T : Addr) (b : Bool) : Prop :=
  h.get? z = some { cls := .type "zip", dict := none, data := .fields #[rawInt T, .bool b, .bool false, .ref TI, .ref TO], slots := #[] }
section
variable {prog : Program} {w : World} {A : Around} {E : Value → Shared → Prop} {s : Shared} {z TI TO T i1 i2 : Addr} {fp1 fp2 : List Addr} {n1 n2 i : Nat} {P1 P2 : Nat → Value → Prop} {St1 St2 : Nat → Heap → Prop} {a1 a2 : Value} {b : Bool}
end

/-! ### a zip that list() draws dry -/
structure ZS (z TI TO i1 i2 N : Addr) (St1 St2 : Nat → Heap → Prop) (i : Nat) (h : Heap) : Prop where
  tI : IsTupOf2 h TI (.ref i1) (.ref i2)
  s1 : St1 i h
  s2 : St2 i h
  zz : (IsZip h z TI TO .none ∧ ∃ x y, IsTupOf2 h TO x y) ∨ ∃ (b : Bool) (T : Addr), ZipN h z TI TO T b ∧ T ≠ N ∧ ∃ o, h.get? T = some o
section
variable {prog : Program} {w : World} {A : Around} {E : Value → Shared → Prop} {s : Shared} {z TI TO i1 i2 N : Addr} {fp1 fp2 : List Addr} {n1 n2 i : Nat} {P1 P2 : Nat → Value → Prop} {St1 St2 : Nat → Heap → Prop} {R : Result → Shared → Prop}
theorem ZS.type (x : ZS z TI TO i1 i2 N St1 St2 i s.heap) : s.TypeIs (.ref z) "zip" := by
  rcases x.zz with ⟨h, _⟩ | ⟨b, T, h, _⟩
  · exact ⟨_, h, rfl⟩
  · exact ⟨_, h, rfl⟩
theorem ZS.keep {h h' : Heap} (D1 : Draws prog w A i1 fp1 n1 P1 St1) (D2 : Draws prog w A i2 fp2 n2 P2 St2) (x : ZS z TI TO i1 i2 N St1 St2 i h) (hz : z ≠ N) (hI : TI ≠ N) (hO : TO ≠ N) (h1 : N ∉ fp1) (h2 : N ∉ fp2)
    (k : ∀ b o, b ≠ N → h.get? b = some o → h'.get? b = some o) : ZS z TI TO i1 i2 N St1 St2 i h' := by
  refine ⟨k _ _ hI x.tI, D1.frame _ _ _ x.s1 fun b hb o e => k b o (fun q => h1 (q ▸ hb)) e, D2.frame _ _ _ x.s2 fun b hb o e => k b o (fun q => h2 (q ▸ hb)) e, ?_⟩
  rcases x.zz with ⟨q, a, b, q2⟩ | ⟨b, T, q, nT, o, e⟩
  · exact .inl ⟨k _ _ hz q, a, b, k _ _ hO q2⟩
  · exact .inr ⟨b, T, k _ _ hz q, nT, o, k _ _ nT e⟩
end
end Mir

/-! Mir: list(zip(a, b)), the rule. -/
namespace Mir
open PySem PySem.Spec PyProof.Rows L2
theorem IsSq.at {h h' : Heap} {k : SK} {a : Addr} {its : Array Value} (x : IsSq h k a its) (hk : ∀ c o, h.get? c = some o → h'.get? c = some o) : IsSq h' k a its := by
  cases k with
  | l => obtain ⟨o, e, r⟩ := x; exact ⟨o, hk _ _ e, r⟩
  | t => obtain ⟨o, e, r⟩ := x; exact ⟨o, hk _ _ e, r⟩
section
variable {X : Cx} {E : XK} {pos : Pos}
instance (a b : Int) : Decidable (RgOk a b) := by unfold RgOk; infer_instance
end
end Mir

/-! Mir: x or y that gives the thing itself. -/
namespace Mir
open PySem PySem.Spec PyProof.Rows L2
end Mir

/-! Mir: reasoning over mirrors. -/
namespace Mir
open PySem PySem.Spec PyProof.Rows L2

@[simp] theorem gEq_bl (neg : Bool) (a b : Bool) (m : Mem) : gEq neg (.bl a) (.bl b) m = .ok (.bl (decide (a = b) ^^ neg)) m := by
  simp [gEq, flatD, scal]
@[simp] theorem gEq_str (neg : Bool) (a b : Str) (m : Mem) : gEq neg (.str a) (.str b) m = .ok (.bl (decide (a = b) ^^ neg)) m := by
  simp [gEq, flatD, scal]
@[simp] theorem gIx_lst0 (d : D) (l : List D) (m : Mem) : gIx (.lst (d :: l)) (.int 0) m = .ok d m := by
  simp [gIx, ixOf, lstOf, atI, ixN, oR]
@[simp] theorem gIx_tup0 (d : D) (l : List D) (m : Mem) : gIx (.tup (d :: l)) (.int 0) m = .ok d m := by
  simp [gIx, ixOf, atI, ixN, oR]
/-! ### what comes of a mirror -/
def Tri {α : Type} (r : R α) (P : α → Mem → Prop) : Prop := match r with
  | .ok a m => P a m
  | _ => False
@[simp] theorem tri_ok {α : Type} (a : α) (m : Mem) (P : α → Mem → Prop) : Tri (.ok a m) P = P a m := nr rfl
@[simp] theorem tri_stk {α : Type} (P : α → Mem → Prop) : Tri (.stk : R α) P = False := nr rfl
@[simp] theorem tri_exc {α : Type} (x : Exn) (m : Mem) (P : α → Mem → Prop) : Tri (.exc x m : R α) P = False := nr rfl
@[simp] theorem tri_bind {α β : Type} (r : R α) (f : α → Mem → R β) (P : β → Mem → Prop) : Tri (r.bind f) P = Tri r (fun a m => Tri (f a m) P) := by cases r <;> rfl
theorem Tri.mono {α : Type} {r : R α} {P Q : α → Mem → Prop} (h : Tri r P) (k : ∀ a m, P a m → Q a m) : Tri r Q := by
  cases r with
  | ok a m => exact k a m h
  | _ => exact h
theorem Tri.ex {α : Type} {r : R α} {P : α → Mem → Prop} (h : Tri r P) : ∃ a m, r = .ok a m ∧ P a m := by
  cases r with
  | ok a m => exact ⟨a, m, rfl, h⟩
  | _ => exact h.elim
@[simp] theorem tri_noX {α : Type} (r : R α) (P : α → Mem → Prop) : Tri (noX r) P = Tri r P := by cases r <;> rfl
@[simp] theorem tri_ite {α : Type} {c : Prop} [Decidable c] (a b : R α) (P : α → Mem → Prop) : Tri (if c then a else b) P = if c then Tri a P else Tri b P := by split <;> rfl
/-- of a statement: what follows, what is returned -/
def TriS (r : RS) (N : Env' → Mem → Prop) (Rt : D → Mem → Prop) : Prop := match r with
  | .nxt η m => N η m
  | .ret d m => Rt d m
  | _ => False
@[simp] theorem tris_nxt (η : Env') (m : Mem) (N : Env' → Mem → Prop) (Rt : D → Mem → Prop) : TriS (.nxt η m) N Rt = N η m := nr rfl
@[simp] theorem tris_ret (d : D) (m : Mem) (N : Env' → Mem → Prop) (Rt : D → Mem → Prop) : TriS (.ret d m) N Rt = Rt d m := nr rfl
@[simp] theorem tris_stk (N : Env' → Mem → Prop) (Rt : D → Mem → Prop) : TriS .stk N Rt = False := nr rfl
@[simp] theorem tris_exc (x : Exn) (m : Mem) (N : Env' → Mem → Prop) (Rt : D → Mem → Prop) : TriS (.exc x m) N Rt = False := nr rfl
@[simp] theorem tris_brk (η : Env') (m : Mem) (N : Env' → Mem → Prop) (Rt : D → Mem → Prop) : TriS (.brk η m) N Rt = False := nr rfl
@[simp] theorem tris_cnt (η : Env') (m : Mem) (N : Env' → Mem → Prop) (Rt : D → Mem → Prop) : TriS (.cnt η m) N Rt = False := nr rfl
@[simp] theorem tris_seq (r : RS) (f : SM) (N : Env' → Mem → Prop) (Rt : D → Mem → Prop) : TriS (r.seq f) N Rt = TriS r (fun η m => TriS (f η m) N Rt) Rt := by cases r <;> rfl
@[simp] theorem tris_toS {α : Type} (r : R α) (f : α → Mem → RS) (N : Env' → Mem → Prop) (Rt : D → Mem → Prop) : TriS (r.toS f) N Rt = Tri r (fun a m => TriS (f a m) N Rt) := by cases r <;> rfl
@[simp] theorem tris_ite {c : Prop} [Decidable c] (a b : RS) (N : Env' → Mem → Prop) (Rt : D → Mem → Prop) : TriS (if c then a else b) N Rt = if c then TriS a N Rt else TriS b N Rt := by split <;> rfl
theorem TriS.mono {r : RS} {N N' : Env' → Mem → Prop} {Rt Rt' : D → Mem → Prop} (h : TriS r N Rt) (k : ∀ η m, N η m → N' η m) (k' : ∀ d m, Rt d m → Rt' d m) : TriS r N' Rt' := by
  cases r with
  | nxt η m => exact k η m h
  | ret d m => exact k' d m h
  | _ => exact h
/-- of a loop's body: what follows, break, continue, what is returned -/
def TriQ (r : RS) (N B C : Env' → Mem → Prop) (Rt : D → Mem → Prop) : Prop := match r with
  | .nxt η m => N η m
  | .brk η m => B η m
  | .cnt η m => C η m
  | .ret d m => Rt d m
  | _ => False
section
variable (η : Env') (m : Mem) (N B C : Env' → Mem → Prop) (Rt : D → Mem → Prop)
@[simp] theorem triq_nxt : TriQ (.nxt η m) N B C Rt = N η m := nr rfl
@[simp] theorem triq_brk : TriQ (.brk η m) N B C Rt = B η m := nr rfl
@[simp] theorem triq_cnt : TriQ (.cnt η m) N B C Rt = C η m := nr rfl
@[simp] theorem triq_ret (d : D) : TriQ (.ret d m) N B C Rt = Rt d m := nr rfl
@[simp] theorem triq_stk : TriQ .stk N B C Rt = False := nr rfl
@[simp] theorem triq_exc (x : Exn) : TriQ (.exc x m) N B C Rt = False := nr rfl
@[simp] theorem triq_seq (r : RS) (f : SM) : TriQ (r.seq f) N B C Rt = TriQ r (fun η m => TriQ (f η m) N B C Rt) B C Rt := by cases r <;> rfl
@[simp] theorem triq_toS {α : Type} (r : R α) (f : α → Mem → RS) : TriQ (r.toS f) N B C Rt = Tri r (fun a m => TriQ (f a m) N B C Rt) := by cases r <;> rfl
@[simp] theorem triq_ite {c : Prop} [Decidable c] (a b : RS) : TriQ (if c then a else b) N B C Rt = if c then TriQ a N B C Rt else TriQ b N B C Rt := by split <;> rfl
end
theorem TriQ.mono {r : RS} {N N' B B' C C' : Env' → Mem → Prop} {Rt Rt' : D → Mem → Prop} (h : TriQ r N B C Rt) (k : ∀ η m, N η m → N' η m) (k2 : ∀ η m, B η m → B' η m) (k3 : ∀ η m, C η m → C' η m) (k' : ∀ d m, Rt d m → Rt' d m) : TriQ r N' B' C' Rt' := by
  cases r with
  | nxt η m => exact k η m h
  | brk η m => exact k2 η m h
  | cnt η m => exact k3 η m h
  | ret d m => exact k' d m h
  | _ => exact h
theorem tri_fn {n N : Nat} {body : SM} {ds : List D} {m : Mem} {P : D → Mem → Prop} (hl : ds.length = n) (h : TriS (body (ds.map some ++ List.replicate (N - n) none) m) (fun _ m => P .non m) P) : Tri (mFn n N body ds m) P := by
  unfold mFn
  rw [if_pos hl, hl]
  revert h
  generalize body (ds.map some ++ List.replicate (N - n) none) m = r
  intro h
  cases r <;> exact h

/-! ### the combinators, applied -/
section
variable (η : Env') (m : Mem) (a b c : EM) (g h : D → D → Mem → R D) (t u : TM) (al : Bool) (as bs : AM) (d : D) (s1 s2 : SM)
def varR (m : Mem) : Option (Option D) → R D
  | some (some d) => .ok d m
  | _ => .stk
@[simp] theorem ap_mVar (i : Nat) : mVar i η m = varR m η[i]? := by
  unfold mVar varR
  cases η[i]? with
  | none => rfl
  | some o => cases o <;> rfl
@[simp] theorem varR_ok : varR m (some (some d)) = .ok d m := nr rfl
@[simp] theorem ap_c : mC d η m = .ok d m := nr rfl
@[simp] theorem ap_op : mOp g a b η m = (a η m).bind fun x m1 => (b η m1).bind fun y m2 => g x y m2 := nr rfl
@[simp] theorem ap_un (g : D → Mem → R D) : mUn g a η m = (a η m).bind fun x m1 => g x m1 := nr rfl
@[simp] theorem ap_test : mTest a η m = (a η m).bind toB := nr rfl
@[simp] theorem toB_bl (k : Bool) : toB (.bl k) m = .ok k m := nr rfl
@[simp] theorem ap_and : mAnd t u η m = (t η m).bind fun x m1 => if x = true then u η m1 else .ok false m1 := nr rfl
@[simp] theorem ap_or : mOr t u η m = (t η m).bind fun x m1 => if x = true then .ok true m1 else u η m1 := nr rfl
@[simp] theorem ap_not : mNot t η m = (t η m).bind fun x m1 => .ok (!x) m1 := nr rfl
@[simp] theorem ap_notV : mNotV a η m = (a η m).bind fun x m1 => (toB x m1).bind fun k m2 => .ok (.bl (!k)) m2 := nr rfl
@[simp] theorem ap_if : mIf t a b η m = (t η m).bind fun k m1 => if k = true then a η m1 else b η m1 := nr rfl
@[simp] theorem ap_nil : mNil η m = .ok [] m := nr rfl
@[simp] theorem ap_cons : mCons a as η m = (a η m).bind fun x m1 => (as η m1).bind fun xs m2 => .ok (x :: xs) m2 := nr rfl
@[simp] theorem ap_tup : mTup as η m = (as η m).bind fun xs m1 => if xs.length ≤ sizeLine then .ok (.tup xs) m1 else .stk := nr rfl
@[simp] theorem ap_lst : mLst al as η m = (as η m).bind fun xs m1 => if xs.length ≤ sizeLine then mkL al xs m1 else .stk := nr rfl
@[simp] theorem ap_cb (g : List D → Mem → R D) : mCB g as η m = (as η m).bind fun xs m1 => g xs m1 := nr rfl
@[simp] theorem ap_noPart : mNoPart η m = .ok none m := nr rfl
def partR : D → Mem → R (Option Int)
  | .int i, m => .ok (some i) m
  | _, _ => .stk
@[simp] theorem partR_int (i : Int) : partR (.int i) m = .ok (some i) m := nr rfl
@[simp] theorem ap_part : mPart a η m = (a η m).bind partR := by
  show (a η m).bind _ = _
  congr
  funext x m1
  cases x <;> rfl
def rng1R : D → Mem → R (Src × Nat)
  | .int j, m => if rngB j = true then .ok (srcLP (rngD 0 j.toNat)) m else .stk
  | _, _ => .stk
@[simp] theorem rng1R_int (j : Int) (h0 : -1000000 ≤ j) (h1 : j ≤ 1000000) : rng1R (.int j) m = .ok (srcLP (rngD 0 j.toNat)) m := by
  show (if rngB j = true then _ else _) = _
  rw [if_pos ((rngB_iff j).mpr (by omega))]
@[simp] theorem gNeg_int (i : Int) : gNeg (.int i) m = .ok (.int (-i)) m := nr rfl
@[simp] theorem ap_sl (g : D → Option Int → Option Int → Mem → R D) (lo hi : OM) : mSl g a lo hi η m = (a η m).bind fun x m1 => (lo η m1).bind fun l m2 => (hi η m2).bind fun u m3 => g x l u m3 := nr rfl
def optR {α : Type} (m : Mem) : Option α → R α
  | some b => .ok b m
  | none => .stk
@[simp] theorem optR_some {α : Type} (b : α) : optR m (some b) = .ok b m := nr rfl
@[simp] theorem optR_none {α : Type} : optR m (none : Option α) = .stk := nr rfl
@[simp] theorem ap_tru : mTru a η m = (a η m).bind fun x m1 => optR m1 (truD m1 x) := by
  show (a η m).bind _ = _
  congr
  funext x m1
  cases truD m1 x <;> rfl
@[simp] theorem mkL_f (ds : List D) : mkL false ds m = .ok (.lst ds) m := nr rfl
@[simp] theorem mkL_t (ds : List D) : mkL true ds m = .ok (.ref m.length) (m ++ [.lst ds]) := nr rfl
@[simp] theorem ap_skip : mSkip η m = .nxt η m := nr rfl
@[simp] theorem ap_seq : mSeq s1 s2 η m = (s1 η m).seq s2 := nr rfl
@[simp] theorem ap_ret : mRet a η m = (a η m).toS fun d m1 => .ret d m1 := nr rfl
@[simp] theorem ap_ifS : mIfS t s1 s2 η m = (t η m).toS fun k m1 => if k = true then s1 η m1 else s2 η m1 := nr rfl
@[simp] theorem ap_asg (g : GM) : mAsg a g η m = (a η m).toS fun d m1 => (g d η m1).toS fun η' m2 => .nxt η' m2 := nr rfl
@[simp] theorem ap_gNm (i : Nat) : gNm i d η m = .ok (η.set i (some d)) m := nr rfl
@[simp] theorem ap_gSub : gSubT a b d η m = (a η m).bind fun o m1 => (b η m1).bind fun i m2 => (gSet o i d m2).bind fun _ m3 => .ok η m3 := nr rfl
@[simp] theorem ap_call (fm : FM) : mCall fm as η m = (as η m).bind fun xs m1 => noX (fm xs m1) := nr rfl
@[simp] theorem ap_bm (T : String) (g : D → List D → Mem → R D) : mBM T g a as η m = (a η m).bind fun x m1 => if isTy T m1 x = true then (as η m1).bind fun xs m2 => g x xs m2 else .stk := nr rfl
@[simp] theorem ap_rng1 : mRng1 a η m = (a η m).bind rng1R := by
  show (a η m).bind _ = _
  congr
  funext x m1
  cases x <;> rfl
@[simp] theorem ap_yes : mYes η m = .ok true m := nr rfl
end

/-! ### loops over a list -/
def forD (g : GM) (body : SM) : List D → Env' → Mem → RS
  | [], η, m => .nxt η m
  | d :: ds, η, m => (g d η m).toS fun η1 m1 => match body η1 m1 with
    | .nxt η2 m2 => forD g body ds η2 m2
    | .cnt η2 m2 => forD g body ds η2 m2
    | .brk η2 m2 => .nxt η2 m2
    | r => r
theorem loop_forD (g : GM) (body : SM) (ds : List D) : ∀ (rest pre : List D) (η : Env') (m : Mem), ds = pre ++ rest → mLoop (srcL ds) g body rest.length pre.length η m = forD g body rest η m
  | [], pre, η, m, e => by
    have hd : ds[pre.length]? = none := by rw [e, List.append_nil]; exact List.getElem?_eq_none (Nat.le_refl _)
    show mLoop (srcL ds) g body 0 pre.length η m = _
    unfold mLoop forD
    simp only [srcL, hd]
  | d :: rest, pre, η, m, e => by
    have hd : ds[pre.length]? = some d := by rw [e, List.getElem?_append_right (Nat.le_refl _), Nat.sub_self]; rfl
    have ih := loop_forD g body ds rest (pre ++ [d])
    unfold forD
    rw [List.length_cons]
    unfold mLoop
    simp only [srcL, hd]
    cases g d η m with
    | ok η1 m1 =>
      simp only [toS_ok]
      cases body η1 m1 with
      | nxt η2 m2 =>
        have := ih η2 m2 (by rw [e]; simp)
        rw [List.length_append] at this
        exact this
      | cnt η2 m2 =>
        have := ih η2 m2 (by rw [e]; simp)
        rw [List.length_append] at this
        exact this
      | _ => rfl
    | _ => rfl
theorem ap_loop (g : GM) (body : SM) (ds : List D) (η : Env') (m : Mem) : mLoop (srcL ds) g body ds.length 0 η m = forD g body ds η m := loop_forD g body ds ds [] η m rfl
def compD (g : GM) (t : TM) (e : EM) (η : Env') : List D → Mem → List D → R (List D)
  | [], m, acc => .ok acc m
  | d :: ds, m, acc => (noX (g d η m)).bind fun η1 m1 => (noX (t η1 m1)).bind fun b m2 =>
      if b = true then (noX (e η1 m2)).bind fun y m3 => if acc.length < sizeLine then compD g t e η ds m3 (acc ++ [y]) else .stk
      else compD g t e η ds m2 acc
theorem lcl_compD (g : GM) (t : TM) (e : EM) (η : Env') (ds : List D) : ∀ (rest pre : List D) (m : Mem) (acc : List D), ds = pre ++ rest → mLcL (srcL ds) g t e η rest.length pre.length m acc = compD g t e η rest m acc
  | [], pre, m, acc, h => by
    have hd : ds[pre.length]? = none := by rw [h, List.append_nil]; exact List.getElem?_eq_none (Nat.le_refl _)
    show mLcL (srcL ds) g t e η 0 pre.length m acc = _
    unfold mLcL compD
    simp only [srcL, hd]
  | d :: rest, pre, m, acc, h => by
    have hd : ds[pre.length]? = some d := by rw [h, List.getElem?_append_right (Nat.le_refl _), Nat.sub_self]; rfl
    have ih := lcl_compD g t e η ds rest (pre ++ [d])
    unfold compD
    rw [List.length_cons]
    unfold mLcL
    simp only [srcL, hd]
    cases noX (g d η m) with
    | ok η1 m1 =>
      simp only [bind_ok]
      cases noX (t η1 m1) with
      | ok b m2 =>
        simp only [bind_ok]
        cases b with
        | false =>
          rw [if_neg Bool.false_ne_true, if_neg Bool.false_ne_true]
          have := ih m2 acc (by rw [h]; simp)
          rw [List.length_append] at this
          exact this
        | true =>
          rw [if_pos rfl, if_pos rfl]
          cases noX (e η1 m2) with
          | ok y m3 =>
            simp only [bind_ok]
            split
            · have := ih m3 (acc ++ [y]) (by rw [h]; simp)
              rw [List.length_append] at this
              exact this
            · rfl
          | _ => rfl
      | _ => rfl
    | _ => rfl
theorem ap_lcl (g : GM) (t : TM) (e : EM) (η : Env') (ds : List D) (m : Mem) (acc : List D) : mLcL (srcL ds) g t e η ds.length 0 m acc = compD g t e η ds m acc := lcl_compD g t e η ds ds [] m acc rfl
@[simp] theorem ap_lc (vs : List Nat) (al : Bool) (ci : IM) (g : GM) (t : TM) (e : EM) (η : Env') (m : Mem) : mLc vs al ci g t e η m = (ci η m).bind fun p m1 => (mLcL p.1 g t e (wipeE η vs) p.2 0 m1 []).bind fun acc m2 => mkL al acc m2 := nr rfl
@[simp] theorem ap_for (ci : IM) (g : GM) (body : SM) (η : Env') (m : Mem) : mFor ci g body η m = (ci η m).toS fun p m1 => mLoop p.1 g body p.2 0 η m1 := nr rfl
@[simp] theorem rngD_length (lo : Int) (n : Nat) : (rngD lo n).length = n := by unfold rngD; rw [List.length_map, List.length_range]
@[simp] theorem ap_lclP (g : GM) (t : TM) (e : EM) (η : Env') (ds : List D) (m : Mem) (acc : List D) : mLcL (srcLP ds).1 g t e η (srcLP ds).2 0 m acc = compD g t e η ds m acc := ap_lcl g t e η ds m acc
@[simp] theorem ap_loopP (g : GM) (body : SM) (ds : List D) (η : Env') (m : Mem) : mLoop (srcLP ds).1 g body (srcLP ds).2 0 η m = forD g body ds η m := ap_loop g body ds η m
/-- a comprehension whose turns leave the memory -/
theorem comp_map {g : GM} {t : TM} {e : EM} {η : Env'} {m : Mem} (f : D → D) : ∀ (ds acc : List D), (∀ d ∈ ds, ∃ η1, g d η m = .ok η1 m ∧ t η1 m = .ok true m ∧ e η1 m = .ok (f d) m) → acc.length + ds.length ≤ sizeLine → compD g t e η ds m acc = .ok (acc ++ ds.map f) m
  | [], acc, _, _ => by simp [compD]
  | d :: ds, acc, h, hl => by
    obtain ⟨η1, h1, h2, h3⟩ := h d List.mem_cons_self
    have hlt : acc.length < sizeLine := by simp at hl; omega
    unfold compD
    simp only [h1, h2, h3, noX_ok, bind_ok, if_true, hlt]
    rw [comp_map f ds (acc ++ [f d]) (fun x hx => h x (List.mem_cons_of_mem _ hx)) (by simp at hl ⊢; omega)]
    simp
/-- a comprehension by an invariant of the memory and what is made -/
theorem comp_inv' {g : GM} {t : TM} {e : EM} {η : Env'} (I : Nat → Mem → List D → Prop) (n : Nat) : ∀ (ds : List D) (i : Nat) (m : Mem) (acc : List D), i + ds.length = n → I i m acc → (∀ j d m acc, d ∈ ds → j < n → I j m acc → Tri ((noX (g d η m)).bind fun η1 m1 => (noX (t η1 m1)).bind fun b m2 =>
      if b = true then (noX (e η1 m2)).bind fun y m3 => if acc.length < sizeLine then .ok (acc ++ [y]) m3 else .stk else .ok acc m2) (fun acc' m' => I (j + 1) m' acc')) → Tri (compD g t e η ds m acc) (fun acc' m' => I n m' acc')
  | [], i, m, acc, hn, h0, _ => by
    have : i = n := hn
    subst this
    exact h0
  | d :: ds, i, m, acc, hn, h0, h => by
    rw [List.length_cons] at hn
    have h1 := h i d m acc List.mem_cons_self (by omega) h0
    have ih := fun m2 acc q => comp_inv' I n ds (i + 1) m2 acc (by omega) q fun j d m acc hd => h j d m acc (List.mem_cons_of_mem _ hd)
    unfold compD
    rw [tri_bind] at h1 ⊢
    refine h1.mono fun η1 m1 h2 => ?_
    rw [tri_bind] at h2 ⊢
    refine h2.mono fun b m2 h3 => ?_
    cases b with
    | false => exact ih m2 acc h3
    | true =>
      rw [if_pos rfl] at h3 ⊢
      rw [tri_bind] at h3 ⊢
      refine h3.mono fun y m3 h4 => ?_
      split at h4
      · rename_i hlt
        rw [if_pos hlt]
        exact ih m3 _ h4
      · exact h4.elim
theorem comp_inv {g : GM} {t : TM} {e : EM} {η : Env'} {m : Mem} (I : Nat → Mem → List D → Prop) (ds : List D) (h0 : I 0 m []) (h : ∀ j d m acc, d ∈ ds → j < ds.length → I j m acc → Tri ((noX (g d η m)).bind fun η1 m1 => (noX (t η1 m1)).bind fun b m2 =>
      if b = true then (noX (e η1 m2)).bind fun y m3 => if acc.length < sizeLine then .ok (acc ++ [y]) m3 else .stk else .ok acc m2) (fun acc' m' => I (j + 1) m' acc')) : Tri (compD g t e η ds m []) (fun acc' m' => I ds.length m' acc') :=
  comp_inv' I ds.length ds 0 m [] (by omega) h0 h
/-- a loop by an invariant: I by the turn, B behind a break -/
theorem for_inv' {g : GM} {body : SM} (I : Nat → Env' → Mem → Prop) (B : Env' → Mem → Prop) (Rt : D → Mem → Prop) (n : Nat) : ∀ (ds : List D) (i : Nat) (η : Env') (m : Mem), i + ds.length = n → I i η m → (∀ j d η m, ds[j - i]? = some d → i ≤ j → j < n → I j η m → Tri (g d η m) (fun η1 m1 => TriQ (body η1 m1) (I (j + 1)) B (I (j + 1)) Rt)) → (∀ η m, I n η m → B η m) → TriS (forD g body ds η m) B Rt
  | [], i, η, m, hn, h0, _, hB => by
    have : i = n := hn
    subst this
    exact hB η m h0
  | d :: ds, i, η, m, hn, h0, h, hB => by
    rw [List.length_cons] at hn
    have h1 := h i d η m (by rw [Nat.sub_self]; rfl) (Nat.le_refl _) (by omega) h0
    have ih := fun η2 m2 q => for_inv' I B Rt n ds (i + 1) η2 m2 (by omega) q (fun j d η m hd hj => h j d η m (by
      rw [show j - i = (j - (i + 1)) + 1 by omega]
      exact hd) (by omega)) hB
    unfold forD
    cases hg : g d η m with
    | ok η1 m1 =>
      rw [hg] at h1
      simp only [tri_ok, toS_ok] at h1 ⊢
      cases hb : body η1 m1 with
      | nxt η2 m2 => rw [hb] at h1; exact ih η2 m2 h1
      | cnt η2 m2 => rw [hb] at h1; exact ih η2 m2 h1
      | brk η2 m2 => rw [hb] at h1; exact h1
      | ret d m2 => rw [hb] at h1; exact h1
      | exc x m2 => rw [hb] at h1; exact h1.elim
      | stk => rw [hb] at h1; exact h1.elim
    | exc x m1 => rw [hg] at h1; exact h1.elim
    | stk => rw [hg] at h1; exact h1.elim
theorem for_inv {g : GM} {body : SM} {η : Env'} {m : Mem} {B : Env' → Mem → Prop} {Rt : D → Mem → Prop} (I : Nat → Env' → Mem → Prop) (ds : List D) (h0 : I 0 η m) (h : ∀ j d η m, ds[j]? = some d → I j η m → Tri (g d η m) (fun η1 m1 => TriQ (body η1 m1) (I (j + 1)) B (I (j + 1)) Rt)) (hB : ∀ η m, I ds.length η m → B η m) : TriS (forD g body ds η m) B Rt :=
  for_inv' I B Rt ds.length ds 0 η m (by omega) h0 (fun j d η m hd _ _ => h j d η m (by simpa using hd)) hB

/-! ### the drawing of numbers -/
/-- what a flow's list holds -/
def FlowL (l : List D) : Prop := ∃ (ns : List Int) (p g x c : Int), l = [.lst (ns.map .int), .int p, .int g, .int x, .int c] ∧ 0 ≤ p ∧ 0 ≤ g ∧ 0 ≤ x ∧ x < 2147483647
def FlowAt (m : Mem) (i : Nat) : Prop := ∃ l, m[i]? = some (.lst l) ∧ FlowL l
/-- the flow alone has changed -/
def FlowTo (m m' : Mem) (i : Nat) : Prop := ∃ l, FlowL l ∧ m' = m.set i (.lst l)
theorem FlowAt.lt {m : Mem} {i : Nat} (h : FlowAt m i) : i < m.length := by
  obtain ⟨l, e, _⟩ := h
  exact (List.getElem?_eq_some_iff.mp e).1
theorem FlowTo.at {m m' : Mem} {i : Nat} (h : FlowTo m m' i) (hi : FlowAt m i) : FlowAt m' i := by
  obtain ⟨l, h1, rfl⟩ := h
  exact ⟨l, List.getElem?_set_self hi.lt, h1⟩
theorem FlowTo.trans {m m1 m2 : Mem} {i : Nat} (h : FlowTo m m1 i) (k : FlowTo m1 m2 i) : FlowTo m m2 i := by
  obtain ⟨l, h1, rfl⟩ := h
  obtain ⟨l2, h2, rfl⟩ := k
  exact ⟨l2, h2, by rw [List.set_set]⟩
theorem FlowAt.refl {m : Mem} {i : Nat} (h : FlowAt m i) : FlowTo m m i := by
  obtain ⟨l, e, hl⟩ := h
  refine ⟨l, hl, ?_⟩
  apply List.ext_getElem?
  intro j
  by_cases hj : i = j
  · subst hj
    rw [e, List.getElem?_set_self (List.getElem?_eq_some_iff.mp e).1]
  · rw [List.getElem?_set_ne hj]
theorem fmod_pos {a b : Int} (h : 0 < b) : a.fmod b = a % b := Int.fmod_eq_emod_of_nonneg a (Int.le_of_lt h)
theorem fdiv_pos {a b : Int} (h : 0 < b) : a.fdiv b = a / b := Int.fdiv_eq_ediv_of_nonneg a (Int.le_of_lt h)
end Mir

/-! Mir: the numbers drawn of a script. -/
namespace Mir
open PySem PySem.Spec PyProof.Rows L2
def pick2 : SM :=
    (mSeq (mIfS (mTest (mOp gGt (mOp gIx (mVar 0) (mC (.int 2))) (mC (.int 0)))) (mSeq (mAsg (mOp gMod (mOp gIx (mVar 0) (mC (.int 2))) (mVar 1)) (gNm 3))
    (mSeq (mAsg (mOp gFdiv (mOp gIx (mVar 0) (mC (.int 2))) (mVar 1)) (gSubT (mVar 0) (mC (.int 2))))
    (mRet (mVar 3)))) mSkip)
    (mSeq (mAsg (mOp (gAdd false) (mOp gIx (mVar 0) (mC (.int 4))) (mC (.int 1))) (gSubT (mVar 0) (mC (.int 4))))
    (mSeq (mAsg (mOp gMod (mOp (gAdd false) (mOp (gAdd false) (mOp gMulI (mOp gIx (mVar 0) (mC (.int 3))) (mC (.int 48271))) (mC (.int 12820163))) (mOp gIx (mVar 0) (mC (.int 4)))) (mC (.int 2147483647))) (gSubT (mVar 0) (mC (.int 3))))
    (mRet (mOp gMod (mOp gFdiv (mOp gMod (mOp gMulI (mOp (gAdd false) (mOp gMod (mOp gIx (mVar 0) (mC (.int 3))) (mC (.int 65521))) (mC (.int 1))) (mOp (gAdd false) (mOp gFdiv (mOp gIx (mVar 0) (mC (.int 3))) (mC (.int 65521))) (mC (.int 7919)))) (mC (.int 1000003))) (mC (.int 7))) (mVar 1))))))
def pick1 : SM :=
    (mIfS (mAnd (mTest (mOp (gEq false) (mOp gIx (mVar 0) (mC (.int 2))) (mC (.int 0)))) (mTest (mOp gLt (mOp gIx (mVar 0) (mC (.int 1))) (mCB bLen (mCons (mOp gIx (mVar 0) (mC (.int 0))) mNil))))) (mSeq (mAsg (mOp gIx (mOp gIx (mVar 0) (mC (.int 0))) (mOp gIx (mVar 0) (mC (.int 1)))) (gNm 2))
    (mSeq (mAsg (mOp (gAdd false) (mOp gIx (mVar 0) (mC (.int 1))) (mC (.int 1))) (gSubT (mVar 0) (mC (.int 1))))
    (mIfS (mTest (mOp gGe (mVar 2) (mOp gPow (mC (.int 10)) (mC (.int 18))))) (mAsg (mVar 2) (gSubT (mVar 0) (mC (.int 2)))) (mAsg (mOp gMod (mOp (gAdd false) (mOp (gAdd false) (mOp gMulI (mOp gIx (mVar 0) (mC (.int 3))) (mC (.int 40013))) (mOp gMod (mVar 2) (mC (.int 1000003)))) (mC (.int 1))) (mC (.int 2147483647))) (gSubT (mVar 0) (mC (.int 3))))))) mSkip)
def pickB : SM := mSeq pick1 pick2
theorem gIx_ref {m : Mem} {i : Nat} {l : List D} {k : Int} {d : D} (h : m[i]? = some (.lst l)) (hk : atI l k = some d) : gIx (.ref i) (.int k) m = .ok d m := by
  show oR m ((lstC m[i]?).bind fun ds => atI ds k) = _
  rw [h]
  show oR m (atI l k) = _
  rw [hk]
  rfl
theorem gSet_ref {m : Mem} {i : Nat} {l : List D} {k : Int} {j : Nat} {d : D} (h : m[i]? = some (.lst l)) (hk : ixN l.length k = some j) : gSet (.ref i) (.int k) d m = .ok () (m.set i (.lst (l.set j d))) := by
  show setL m i k d = _
  unfold setL
  rw [h]
  simp only [lstC, hk]
@[simp] theorem gEq_int (neg : Bool) (i j : Int) (m : Mem) : gEq neg (.int i) (.int j) m = .ok (.bl (decide (i = j) ^^ neg)) m := by
  simp [gEq, flatD, scal]
@[simp] theorem gCmp_int (f : Int → Int → Bool) (h : List Nat → List Nat → Bool) (i j : Int) (m : Mem) : gCmp f h (.int i) (.int j) m = .ok (.bl (f i j)) m := nr rfl
@[simp] theorem gSub_int (i j : Int) (m : Mem) : gSub (.int i) (.int j) m = .ok (.int (i - j)) m := nr rfl
theorem gMod_pos {i j : Int} {m : Mem} (h : 0 < j) : gMod (.int i) (.int j) m = .ok (.int (i % j)) m := by
  show (if j = 0 then R.stk else R.ok (D.int (i.fmod j)) m) = _
  rw [if_neg (by omega), fmod_pos h]
theorem gFdiv_pos {i j : Int} {m : Mem} (h : 0 < j) (hb : j.natAbs.log2 < 9000) : gFdiv (.int i) (.int j) m = .ok (.int (i / j)) m := by
  show (if divOk j then R.ok (D.int (i.fdiv j)) m else R.stk) = _
  rw [if_pos ⟨by omega, hb⟩, fdiv_pos h]
theorem gMul_r {i j : Int} {m : Mem} (h : j.natAbs < 2 ^ 64) : gMulI (.int i) (.int j) m = .ok (.int (i * j)) m := by
  show (if mulOk i j then R.ok (D.int (i * j)) m else R.stk) = _
  rw [if_pos (.inr (.inl h))]
theorem bLen_ok {m : Mem} {d : D} {n : Nat} (h : lenOf m d = some n) : bLen [d] m = .ok (.int n) m := by
  unfold bLen
  simp only [h]
theorem pow18 (m : Mem) : gPow (.int 10) (.int 18) m = .ok (.int 1000000000000000000) m := by
  show (if powOk 10 18 then R.ok (D.int ((10 : Int) ^ (18 : Int).toNat)) m else R.stk) = _
  rw [if_pos (by decide)]
  rfl
theorem pick_spec {m : Mem} {i : Nat} {n : Int} (hf : FlowAt m i) (hn : 0 < n) (hb : n.natAbs.log2 < 9000) : Tri (mFn 2 4 pickB [.ref i, .int n] m) (fun d m' => ∃ k : Int, d = .int k ∧ 0 ≤ k ∧ k < n ∧ FlowTo m m' i) := by
  have hlt := hf.lt
  obtain ⟨l, hm, ns, p, g, x, c, rfl, hp, hg, hx, hx2⟩ := hf
  refine tri_fn rfl ?_
  have ix0 : ∀ (a b c d e : D), atI [a, b, c, d, e] 0 = some a := fun _ _ _ _ _ => rfl
  have ix1 : ∀ (a b c d e : D), atI [a, b, c, d, e] 1 = some b := fun _ _ _ _ _ => rfl
  have ix2 : ∀ (a b c d e : D), atI [a, b, c, d, e] 2 = some c := fun _ _ _ _ _ => rfl
  have ix3 : ∀ (a b c d e : D), atI [a, b, c, d, e] 3 = some d := fun _ _ _ _ _ => rfl
  have ix4 : ∀ (a b c d e : D), atI [a, b, c, d, e] 4 = some e := fun _ _ _ _ _ => rfl
  have hs : ∀ l, (m.set i (.lst l))[i]? = some (.lst l) := fun l => List.getElem?_set_self hlt
  have se : ∀ (k : Int) (j : Nat) (a b c d e y : D), ixN 5 k = some j → gSet (.ref i) (.int k) y (m.set i (.lst [a, b, c, d, e])) = .ok () (m.set i (.lst ([a, b, c, d, e].set j y))) := fun k j a b c d e y h => by
    rw [gSet_ref (l := [a, b, c, d, e]) (hs _) (j := j) h, List.set_set]
  have s1 := fun a b c d e y => se 1 1 a b c d e y rfl
  have s2 := fun a b c d e y => se 2 2 a b c d e y rfl
  have s3 := fun a b c d e y => se 3 3 a b c d e y rfl
  have s4 := fun a b c d e y => se 4 4 a b c d e y rfl
  have md1 := fun i m => @gMod_pos i 2147483647 m (by decide)
  have md2 := fun i m => @gMod_pos i 65521 m (by decide)
  have md3 := fun i m => @gMod_pos i 1000003 m (by decide)
  have dv1 := fun i m => @gFdiv_pos i 65521 m (by decide) (by decide)
  have dv2 := fun i m => @gFdiv_pos i 7 m (by decide) (by decide)
  have ml1 := fun i m => @gMul_r i 48271 m (by decide)
  have ml2 := fun i m => @gMul_r i 40013 m (by decide)
  have mdn := fun i m => @gMod_pos i n m hn
  have dvn := fun i m => @gFdiv_pos i n m hn hb
  -- the second half, from any flow
  have part2 : ∀ (g x c p : Int) (e2 e3 : Option D), 0 ≤ p → 0 ≤ g → 0 ≤ x → x < 2147483647 → TriS (pick2 [some (.ref i), some (.int n), e2, e3] (m.set i (.lst [.lst (ns.map .int), .int p, .int g, .int x, .int c]))) (fun _ m' => False) (fun d m' => ∃ k : Int, d = .int k ∧ 0 ≤ k ∧ k < n ∧ FlowTo m m' i) := by
    intro g x c p e2 e3 hp hg hx hx2
    have hy0 : 0 ≤ (x * 48271 + 12820163 + (c + 1)) % 2147483647 := Int.emod_nonneg _ (by decide)
    have hy1 : (x * 48271 + 12820163 + (c + 1)) % 2147483647 < 2147483647 := Int.emod_lt_of_pos _ (by decide)
    have ml3 : ∀ i m, gMulI (.int i) (.int ((x * 48271 + 12820163 + (c + 1)) % 2147483647 / 65521 + 7919)) m = .ok (.int (i * ((x * 48271 + 12820163 + (c + 1)) % 2147483647 / 65521 + 7919))) m := fun i m => gMul_r (by omega)
    by_cases h0 : 0 < g
    · simp [pick2, gIx_ref (hs _) (ix2 _ _ _ _ _), h0, mdn, dvn, s2]
      exact ⟨Int.emod_nonneg _ (by omega), Int.emod_lt_of_pos _ hn, _, ⟨ns, p, g / n, x, c, rfl, hp, Int.ediv_nonneg hg (by omega), hx, hx2⟩, rfl⟩
    · simp [pick2, gIx_ref (hs _) (ix2 _ _ _ _ _), gIx_ref (hs _) (ix3 _ _ _ _ _), gIx_ref (hs _) (ix4 _ _ _ _ _), h0, mdn, s3, s4, md1, md2, md3, dv1, dv2, ml1, ml3]
      exact ⟨Int.emod_nonneg _ (by omega), Int.emod_lt_of_pos _ hn, _, ⟨ns, p, g, _, c + 1, rfl, hp, hg, hy0, hy1⟩, rfl⟩
  have m0 : m = m.set i (.lst [.lst (ns.map .int), .int p, .int g, .int x, .int c]) := by
    apply List.ext_getElem?
    intro j
    by_cases hj : i = j
    · subst hj
      rw [hm, hs]
    · rw [List.getElem?_set_ne hj]
  have fin : ∀ {N : Env' → Mem → Prop} {r : RS} {Q : D → Mem → Prop}, TriS r (fun _ _ => False) Q → TriS r N Q := fun h => h.mono (fun _ _ z => z.elim) (fun _ _ z => z)
  show TriS ((pick1 _ m).seq pick2) _ _
  rw [tris_seq]
  have len0 : lenOf m (.lst (ns.map D.int)) = some ns.length := by show some (ns.map D.int).length = _; rw [List.length_map]
  have bl := bLen_ok len0
  have t1 : ∀ y, gSet (.ref i) (.int 1) y m = .ok () (m.set i (.lst [.lst (ns.map .int), y, .int g, .int x, .int c])) := fun y => gSet_ref hm (j := 1) rfl
  have h0 := gIx_ref hm (ix0 _ _ _ _ _)
  have h1 := gIx_ref hm (ix1 _ _ _ _ _)
  have h2 := gIx_ref hm (ix2 _ _ _ _ _)
  by_cases hg0 : g = 0
  · subst hg0
    by_cases hpl : p < (ns.length : Int)
    · -- a cell is taken
      have hat : atI (ns.map D.int) p = some (.int (ns[p.toNat]'(by omega))) := by
        unfold atI ixN
        rw [List.length_map, if_pos hp, if_pos hpl]
        simp only [Option.bind_some, List.getElem?_map]
        rw [List.getElem?_eq_getElem (by omega)]
        rfl
      generalize ns[p.toNat]'(by omega) = cell at hat
      have hix : gIx (.lst (ns.map D.int)) (.int p) m = .ok (.int cell) m := by
        show oR m ((some (ns.map D.int)).bind fun ds => atI ds p) = _
        simp only [Option.bind_some, hat]
        rfl
      by_cases hc : (1000000000000000000 : Int) ≤ cell
      · simp [pick1, h0, h1, h2, bl, hpl, hix, t1, pow18, hc, s2]
        exact fin (part2 cell x c (p + 1) _ _ (by omega) (by omega) hx hx2)
      · simp [pick1, h0, h1, h2, bl, hpl, hix, t1, pow18, hc, gIx_ref (hs _) (ix3 _ _ _ _ _), ml2, md1, md3, s3]
        exact fin (part2 0 _ c (p + 1) _ _ (by omega) (by omega) (Int.emod_nonneg _ (by decide)) (Int.emod_lt_of_pos _ (by decide)))
    · simp [pick1, h0, h1, h2, bl, hpl]
      have q := part2 0 x c p none none hp (by omega) hx hx2
      rw [← m0] at q
      exact fin q
  · simp [pick1, h2, hg0]
    have q := part2 g x c p none none hp hg hx hx2
    rw [← m0] at q
    exact fin q
end Mir

/-! Mir: texts. -/
namespace Mir
open PySem PySem.Spec PyProof.Rows L2 PySem.NumText
theorem size_le {n : Nat} (h : n ≤ 1000000) : n ≤ sizeLine := Nat.le_trans h (by decide)
theorem size_lt {n : Nat} (h : n < 1000000) : n < sizeLine := Nat.lt_of_lt_of_le h (by decide)
theorem joinL_chars : ∀ cs : List Nat, TL.joinL [] (cs.map fun c => [c]) = cs
  | [] => rfl
  | [c] => rfl
  | c :: d :: r => by
    show [c] ++ ([] ++ TL.joinL [] ((d :: r).map fun c => [c])) = _
    rw [joinL_chars (d :: r)]; rfl
theorem join_chars (cs : List Nat) : (Txt.join (Str.ofString "") (cs.map fun c => (⟨#[c]⟩ : Str))) = ⟨cs.toArray⟩ := by
  have h := SX.join_S [] (cs.map fun c => [c])
  rw [joinL_chars] at h
  rw [List.map_map] at h
  exact h
theorem mapO_map {α β γ : Type} {f : β → Option γ} {g : α → β} {h : α → γ} (hf : ∀ x, f (g x) = some (h x)) : ∀ l : List α, mapO f (l.map g) = some (l.map h)
  | [] => rfl
  | x :: l => by
    rw [List.map_cons, List.map_cons]
    unfold mapO
    rw [hf x, mapO_map hf l]
theorem mapO_chars (cs : List Nat) : mapO Mir.strOf (cs.map fun c => D.str ⟨#[c]⟩) = some (cs.map fun c => (⟨#[c]⟩ : Str)) := mapO_map (f := Mir.strOf) (g := fun c => D.str ⟨#[c]⟩) (h := fun c => (⟨#[c]⟩ : Str)) (fun _ => rfl) cs
theorem sum_ones : ∀ cs : List Nat, (List.map (fun x => x.length) (cs.map fun c => (⟨#[c]⟩ : Str))).sum = cs.length
  | [] => rfl
  | c :: cs => by
    rw [List.map_cons, List.map_cons, List.sum_cons, sum_ones cs, List.length_cons]
    show 1 + cs.length = _
    omega
theorem gJoin_chars {m : Mem} {cs : List Nat} (h : cs.length ≤ 1000000) : gJoin (.str (Str.ofString "")) [.lst (cs.map fun c => D.str ⟨#[c]⟩)] m = .ok (.str ⟨cs.toArray⟩) m := by
  unfold gJoin
  simp only [seqOf, lstOf, Option.bind_some, mapO_chars]
  rw [if_pos, join_chars]
  rw [sum_ones, List.length_map]
  show cs.length + cs.length * 0 ≤ _
  omega
theorem gAdd_str {al : Bool} {x y : Str} {m : Mem} (h : x.length + y.length ≤ 1000000) : gAdd al (.str x) (.str y) m = .ok (.str (x ++ y)) m := by
  show (if x.length + y.length ≤ sizeLine then R.ok (D.str (x ++ y)) m else R.stk) = _
  rw [if_pos (size_le h)]
theorem gSl_str {al : Bool} {x : Str} {lo hi : Option Int} {m : Mem} (h : x.length ≤ 1000000) : gSl al (.str x) lo hi m = .ok (.str (cutS x lo hi)) m := by
  show (if x.length ≤ sizeLine then R.ok (D.str (cutS x lo hi)) m else R.stk) = _
  rw [if_pos (size_le h)]
@[simp] theorem bLen_lst (ds : List D) (m : Mem) : bLen [.lst ds] m = .ok (.int ds.length) m := nr rfl
@[simp] theorem bLen_tup (ds : List D) (m : Mem) : bLen [.tup ds] m = .ok (.int ds.length) m := nr rfl
theorem gIx_str {x : Str} {k : Int} {m : Mem} {c : Nat} (h : x.length ≤ 1000000) (hc : atI x.cps.toList k = some c) : gIx (.str x) (.int k) m = .ok (.str ⟨#[c]⟩) m := by
  show oR m (if x.length ≤ sizeLine then (atI x.cps.toList k).map fun c => D.str ⟨#[c]⟩ else none) = _
  rw [if_pos (size_le h), hc]
  rfl
theorem gIx_lst {l : List D} {k : Int} {m : Mem} {d : D} (hc : atI l k = some d) : gIx (.lst l) (.int k) m = .ok d m := by
  show oR m (atI l k) = _
  rw [hc]; rfl
theorem gIx_tup {l : List D} {k : Int} {m : Mem} {d : D} (hc : atI l k = some d) : gIx (.tup l) (.int k) m = .ok d m := by
  show oR m (atI l k) = _
  rw [hc]; rfl
theorem inV_strs {x : Str} : ∀ ys : List Str, inV (.str x) (ys.map V.str) = decide (x ∈ ys)
  | [] => by simp [inV]
  | y :: ys => by
    have ih := inV_strs (x := x) ys
    unfold inV at ih ⊢
    rw [List.map_cons, List.any_cons, ih]
    show ((y == x) || decide (x ∈ ys)) = _
    by_cases h : y = x
    · subst h; simp
    · simp [h, Ne.symm h]
theorem mapO_strs (ys : List Str) : mapO flatD (ys.map D.str) = some (ys.map V.str) := mapO_map (f := flatD) (g := D.str) (h := V.str) (fun _ => rfl) ys
theorem gIn_tstrs {x : Str} {ys : List Str} {neg : Bool} {m : Mem} : gIn neg (.str x) (.tup (ys.map .str)) m = .ok (.bl (decide (x ∈ ys) ^^ neg)) m := by
  show bR neg m (flatIn (.str x) (ys.map .str)) = _
  unfold flatIn
  simp only [flatD, mapO_strs, inV_strs]
  rfl
@[simp] theorem gIn_sign {c : Nat} {y : Str} {neg : Bool} {m : Mem} : gIn neg (.str ⟨#[c]⟩) (.str y) m = .ok (.bl (decide (c ∈ y.cps.toList) ^^ neg)) m := nr rfl
@[simp] theorem S_eq {a b : List Nat} : ((SX.S a : Str) = SX.S b) = (a = b) := propext ⟨SX.S_inj, fun e => by rw [e]⟩
@[simp] theorem S_length (a : List Nat) : (SX.S a).length = a.length := SX.S_len a
@[simp] theorem truD_bl (m : Mem) (b : Bool) : truD m (.bl b) = some b := nr rfl
end Mir

/-! Mir: fractions are Lean's rational numbers. -/
namespace Mir.Fr
open PySem PySem.Spec PyProof.Rows L2 Mir
theorem log2_lt {n k : Nat} (h : n < 2 ^ k) (hk : 0 < k) : n.log2 < k := by
  by_cases hn : n = 0
  · subst hn
    simpa using hk
  · exact (Nat.log2_lt hn).mpr h
/-- of at most so many bits -/
def QB (k : Nat) (q : Rat) : Prop := q.num.natAbs < 2 ^ k ∧ q.den < 2 ^ k
theorem QB.mono {j k : Nat} {q : Rat} (h : QB j q) (hk : j ≤ k) : QB k q := ⟨Nat.lt_of_lt_of_le h.1 (Nat.pow_le_pow_right (by decide) hk), Nat.lt_of_lt_of_le h.2 (Nat.pow_le_pow_right (by decide) hk)⟩
theorem mul_bd {i j : Int} {a b : Nat} (hi : i.natAbs < 2 ^ a) (hj : j.natAbs < 2 ^ b) : (i * j).natAbs < 2 ^ (a + b) := wide_lt hi hj
theorem den_bd {q : Rat} {k : Nat} (h : q.den < 2 ^ k) : (q.den : Int).natAbs < 2 ^ k := by rw [Int.natAbs_natCast]; exact h
section
variable {m : Mem} {p q : Rat} {k : Nat}
variable (hp : QB k p) (hq : QB k q) (hk : 0 < k) (hk2 : k ≤ 4000)
theorem b2 (hp : QB k p) (hq : QB k q) : ((p.den : Int) * q.den).natAbs < 2 ^ (k + k) := mul_bd (den_bd hp.2) (den_bd hq.2)
end
end Mir.Fr

/-! Mir: more reasoning: loops over zip and enumerate, typed lists, the flow beside other cells. -/
namespace Mir
open PySem PySem.Spec PyProof.Rows L2
/-! ### small sizes -/
@[simp] theorem szl0 : (0 ≤ sizeLine) = True := eq_true (size_le (by decide))
@[simp] theorem szl1 : (1 ≤ sizeLine) = True := eq_true (size_le (by decide))
@[simp] theorem szl2 : (2 ≤ sizeLine) = True := eq_true (size_le (by decide))
@[simp] theorem szl3 : (3 ≤ sizeLine) = True := eq_true (size_le (by decide))
@[simp] theorem szl4 : (4 ≤ sizeLine) = True := eq_true (size_le (by decide))
@[simp] theorem szl5 : (5 ≤ sizeLine) = True := eq_true (size_le (by decide))
@[simp] theorem szl6 : (6 ≤ sizeLine) = True := eq_true (size_le (by decide))
@[simp] theorem szl7 : (7 ≤ sizeLine) = True := eq_true (size_le (by decide))
@[simp] theorem szl8 : (8 ≤ sizeLine) = True := eq_true (size_le (by decide))
@[simp] theorem szl9 : (9 ≤ sizeLine) = True := eq_true (size_le (by decide))
@[simp] theorem szl10 : (10 ≤ sizeLine) = True := eq_true (size_le (by decide))
@[simp] theorem szl11 : (11 ≤ sizeLine) = True := eq_true (size_le (by decide))
@[simp] theorem szl12 : (12 ≤ sizeLine) = True := eq_true (size_le (by decide))
@[simp] theorem szl13 : (13 ≤ sizeLine) = True := eq_true (size_le (by decide))
@[simp] theorem szl14 : (14 ≤ sizeLine) = True := eq_true (size_le (by decide))
@[simp] theorem szl15 : (15 ≤ sizeLine) = True := eq_true (size_le (by decide))
@[simp] theorem szl16 : (16 ≤ sizeLine) = True := eq_true (size_le (by decide))
@[simp] theorem szl17 : (17 ≤ sizeLine) = True := eq_true (size_le (by decide))
@[simp] theorem szl18 : (18 ≤ sizeLine) = True := eq_true (size_le (by decide))
@[simp] theorem szl19 : (19 ≤ sizeLine) = True := eq_true (size_le (by decide))
@[simp] theorem szl20 : (20 ≤ sizeLine) = True := eq_true (size_le (by decide))
@[simp] theorem isTy_lst (ds : List D) (m : Mem) : isTy "list" m (.lst ds) = true := nr rfl
@[simp] theorem isTy_tup (ds : List D) (m : Mem) : isTy "tuple" m (.tup ds) = true := nr rfl
@[simp] theorem isTy_str (x : Str) (m : Mem) : isTy "str" m (.str x) = true := nr rfl
theorem tuple_ref {m : Mem} {j : Nat} {l : List D} (h : m[j]? = some (.lst l)) : bTuple [.ref j] m = .ok (.tup l) m := by
  unfold bTuple
  simp [seqOf, lstOf, h, lstC]
@[simp] theorem own_lst (ds : List D) (m : Mem) : lstOwn m (.lst ds) = some ds := nr rfl
theorem cat_own {m : Mem} {d e : D} {xs ys : List D} (h1 : lstOwn m d = some xs) (h2 : lstOwn m e = some ys) (hl : xs.length + ys.length ≤ 1000000) : gAdd false d e m = .ok (.lst (xs ++ ys)) m := by
  have e : gAdd false d e m = catL false m (lstOwn m d) (lstOwn m e) := by
    cases d with
    | lst _ => rfl
    | ref _ => rfl
    | _ => cases h1
  rw [e, h1, h2]
  show (if xs.length + ys.length ≤ sizeLine then mkL false (xs ++ ys) m else .stk) = _
  rw [if_pos (size_le hl)]
  rfl
@[simp] theorem gIx_tup1 (a0 a1 : D) (l : List D) (m : Mem) : gIx (.tup (a0 :: a1 :: l)) (.int 1) m = .ok a1 m := by
  have : atI (a0 :: a1 :: l) 1 = some a1 := by
    unfold atI ixN
    rw [if_pos (by decide), if_pos (by simp only [List.length_cons]; omega)]
    rfl
  exact gIx_tup this
@[simp] theorem gIx_tup2 (a0 a1 a2 : D) (l : List D) (m : Mem) : gIx (.tup (a0 :: a1 :: a2 :: l)) (.int 2) m = .ok a2 m := by
  have : atI (a0 :: a1 :: a2 :: l) 2 = some a2 := by
    unfold atI ixN
    rw [if_pos (by decide), if_pos (by simp only [List.length_cons]; omega)]
    rfl
  exact gIx_tup this
@[simp] theorem gIx_tup3 (a0 a1 a2 a3 : D) (l : List D) (m : Mem) : gIx (.tup (a0 :: a1 :: a2 :: a3 :: l)) (.int 3) m = .ok a3 m := by
  have : atI (a0 :: a1 :: a2 :: a3 :: l) 3 = some a3 := by
    unfold atI ixN
    rw [if_pos (by decide), if_pos (by simp only [List.length_cons]; omega)]
    rfl
  exact gIx_tup this
@[simp] theorem gIx_tup4 (a0 a1 a2 a3 a4 : D) (l : List D) (m : Mem) : gIx (.tup (a0 :: a1 :: a2 :: a3 :: a4 :: l)) (.int 4) m = .ok a4 m := by
  have : atI (a0 :: a1 :: a2 :: a3 :: a4 :: l) 4 = some a4 := by
    unfold atI ixN
    rw [if_pos (by decide), if_pos (by simp only [List.length_cons]; omega)]
    rfl
  exact gIx_tup this
@[simp] theorem gIx_tup5 (a0 a1 a2 a3 a4 a5 : D) (l : List D) (m : Mem) : gIx (.tup (a0 :: a1 :: a2 :: a3 :: a4 :: a5 :: l)) (.int 5) m = .ok a5 m := by
  have : atI (a0 :: a1 :: a2 :: a3 :: a4 :: a5 :: l) 5 = some a5 := by
    unfold atI ixN
    rw [if_pos (by decide), if_pos (by simp only [List.length_cons]; omega)]
    rfl
  exact gIx_tup this
@[simp] theorem gIx_lst1 (a0 a1 : D) (l : List D) (m : Mem) : gIx (.lst (a0 :: a1 :: l)) (.int 1) m = .ok a1 m := by
  have : atI (a0 :: a1 :: l) 1 = some a1 := by
    unfold atI ixN
    rw [if_pos (by decide), if_pos (by simp only [List.length_cons]; omega)]
    rfl
  exact gIx_lst this
@[simp] theorem gIx_lst2 (a0 a1 a2 : D) (l : List D) (m : Mem) : gIx (.lst (a0 :: a1 :: a2 :: l)) (.int 2) m = .ok a2 m := by
  have : atI (a0 :: a1 :: a2 :: l) 2 = some a2 := by
    unfold atI ixN
    rw [if_pos (by decide), if_pos (by simp only [List.length_cons]; omega)]
    rfl
  exact gIx_lst this
@[simp] theorem gIx_lst3 (a0 a1 a2 a3 : D) (l : List D) (m : Mem) : gIx (.lst (a0 :: a1 :: a2 :: a3 :: l)) (.int 3) m = .ok a3 m := by
  have : atI (a0 :: a1 :: a2 :: a3 :: l) 3 = some a3 := by
    unfold atI ixN
    rw [if_pos (by decide), if_pos (by simp only [List.length_cons]; omega)]
    rfl
  exact gIx_lst this
@[simp] theorem gIx_lst4 (a0 a1 a2 a3 a4 : D) (l : List D) (m : Mem) : gIx (.lst (a0 :: a1 :: a2 :: a3 :: a4 :: l)) (.int 4) m = .ok a4 m := by
  have : atI (a0 :: a1 :: a2 :: a3 :: a4 :: l) 4 = some a4 := by
    unfold atI ixN
    rw [if_pos (by decide), if_pos (by simp only [List.length_cons]; omega)]
    rfl
  exact gIx_lst this
@[simp] theorem gIx_lst5 (a0 a1 a2 a3 a4 a5 : D) (l : List D) (m : Mem) : gIx (.lst (a0 :: a1 :: a2 :: a3 :: a4 :: a5 :: l)) (.int 5) m = .ok a5 m := by
  have : atI (a0 :: a1 :: a2 :: a3 :: a4 :: a5 :: l) 5 = some a5 := by
    unfold atI ixN
    rw [if_pos (by decide), if_pos (by simp only [List.length_cons]; omega)]
    rfl
  exact gIx_lst this
@[simp] theorem bTuple_lst (ds : List D) (m : Mem) : bTuple [.lst ds] m = .ok (.tup ds) m := nr rfl
@[simp] theorem bTuple_tup (ds : List D) (m : Mem) : bTuple [.tup ds] m = .ok (.tup ds) m := nr rfl
@[simp] theorem bList_lst (ds : List D) (m : Mem) : bList false [.lst ds] m = .ok (.lst ds) m := nr rfl
@[simp] theorem bList_tup (ds : List D) (m : Mem) : bList false [.tup ds] m = .ok (.lst ds) m := nr rfl
@[simp] theorem bListT_lst (ds : List D) (m : Mem) : bList true [.lst ds] m = .ok (.ref m.length) (m ++ [.lst ds]) := nr rfl
@[simp] theorem bListT_tup (ds : List D) (m : Mem) : bList true [.tup ds] m = .ok (.ref m.length) (m ++ [.lst ds]) := nr rfl
/-! ### the flow beside other cells -/
def Flo (m m' : Mem) (i : Nat) : Prop := FlowAt m' i ∧ m.length ≤ m'.length ∧ ∀ j, j ≠ i → j < m.length → m'[j]? = m[j]?
theorem Flo.refl {m : Mem} {i : Nat} (h : FlowAt m i) : Flo m m i := ⟨h, Nat.le_refl _, fun _ _ _ => rfl⟩
theorem Flo.at {m m' : Mem} {i : Nat} (h : Flo m m' i) : FlowAt m' i := h.1
theorem Flo.trans {m m1 m2 : Mem} {i : Nat} (h : Flo m m1 i) (k : Flo m1 m2 i) : Flo m m2 i :=
  ⟨k.1, Nat.le_trans h.2.1 k.2.1, fun j hj hl => (k.2.2 j hj (Nat.lt_of_lt_of_le hl h.2.1)).trans (h.2.2 j hj hl)⟩
theorem FlowTo.flo {m m' : Mem} {i : Nat} (h : FlowTo m m' i) (hi : FlowAt m i) : Flo m m' i := by
  refine ⟨h.at hi, ?_, fun j hj hl => ?_⟩
  · obtain ⟨l, _, rfl⟩ := h
    rw [List.length_set]
    exact Nat.le_refl _
  · obtain ⟨l, _, rfl⟩ := h
    exact List.getElem?_set_ne (Ne.symm hj)
theorem Flo.get {m m' : Mem} {i j : Nat} {c : Cell} (h : Flo m m' i) (hj : j ≠ i) (hc : m[j]? = some c) : m'[j]? = some c := by
  rw [h.2.2 j hj (List.getElem?_eq_some_iff.mp hc).1]
  exact hc
/-- a new cell -/
theorem Flo.push {m m' : Mem} {i : Nat} (h : Flo m m' i) (c : Cell) : Flo m (m' ++ [c]) i := by
  refine ⟨?_, by rw [List.length_append]; exact Nat.le_trans h.2.1 (Nat.le_add_right _ _), fun j hj hl => ?_⟩
  · obtain ⟨l, e, hl⟩ := h.1
    exact ⟨l, by rw [List.getElem?_append_left (List.getElem?_eq_some_iff.mp e).1]; exact e, hl⟩
  · rw [List.getElem?_append_left (Nat.lt_of_lt_of_le hl h.2.1)]
    exact h.2.2 j hj hl
/-- a cell beyond is changed -/
theorem Flo.put {m m' : Mem} {i j : Nat} (h : Flo m m' i) (hj : m.length ≤ j) (hi : j ≠ i) (c : Cell) : Flo m (m'.set j c) i := by
  refine ⟨?_, by rw [List.length_set]; exact h.2.1, fun k hk hl => ?_⟩
  · obtain ⟨l, e, hl⟩ := h.1
    exact ⟨l, by rw [List.getElem?_set_ne hi]; exact e, hl⟩
  · rw [List.getElem?_set_ne (by omega)]
    exact h.2.2 k hk hl
theorem log_small {n : Int} (h : n.natAbs < 2 ^ 64) : n.natAbs.log2 < 9000 := by
  by_cases h0 : n.natAbs = 0
  · rw [h0]; decide
  · exact Nat.lt_of_lt_of_le ((Nat.log2_lt h0).mpr h) (by decide)
theorem pick_flo {m : Mem} {i : Nat} {n : Int} (hf : FlowAt m i) (hn : 0 < n) (hb : n < 2 ^ 64) : Tri (mFn 2 4 pickB [.ref i, .int n] m) (fun d m' => ∃ k : Nat, d = .int (k : Nat) ∧ (k : Int) < n ∧ Flo m m' i) :=
  (pick_spec hf hn (log_small (by omega))).mono fun d m' ⟨k, e, h0, h1, h2⟩ => ⟨k.toNat, by rw [e, Int.toNat_of_nonneg h0], by rw [Int.toNat_of_nonneg h0]; exact h1, h2.flo hf⟩

/-! ### sources that hold still -/
section
variable (η : Env') (m : Mem) (a b : EM) (g : GM) (body : SM) (t : TM) (e : EM) (xs ys acc : List D) (c : Int)
end
/-! ### comprehensions over typed lists -/
theorem comp_mapT {α : Type} {g : GM} {t : TM} {e : EM} {η : Env'} {m : Mem} (emb f : α → D) : ∀ (xs : List α) (acc : List D), (∀ x ∈ xs, ∃ η1, g (emb x) η m = .ok η1 m ∧ t η1 m = .ok true m ∧ e η1 m = .ok (f x) m) → acc.length + xs.length ≤ 1000000 → compD g t e η (xs.map emb) m acc = .ok (acc ++ xs.map f) m
  | [], acc, _, _ => by simp [compD]
  | x :: xs, acc, h, hl => by
    obtain ⟨η1, h1, h2, h3⟩ := h x List.mem_cons_self
    have hlt : acc.length < sizeLine := size_lt (by simp at hl; omega)
    rw [List.map_cons]
    unfold compD
    simp only [h1, h2, h3, noX_ok, bind_ok, if_true, hlt]
    rw [comp_mapT emb f xs (acc ++ [f x]) (fun y hy => h y (List.mem_cons_of_mem _ hy)) (by simp at hl ⊢; omega)]
    simp
/-- a comprehension that draws: of each item something of a sort -/
theorem comp_draw {α : Type} {g : GM} {e : EM} {η : Env'} {m : Mem} {i : Nat} {ds : List D} (emb : α → D) (P : α → Prop) (hf : FlowAt m i) (hl : ds.length ≤ 1000000)
    (h : ∀ d m', d ∈ ds → Flo m m' i → Tri (noX (g d η m')) (fun η1 m1 => Tri (noX (e η1 m1)) (fun y m2 => ∃ a, y = emb a ∧ P a ∧ Flo m m2 i))) :
    Tri (compD g mYes e η ds m []) (fun acc m' => ∃ as : List α, acc = as.map emb ∧ as.length = ds.length ∧ (∀ a ∈ as, P a) ∧ Flo m m' i) := by
  refine comp_inv (fun j m' acc => ∃ as : List α, acc = as.map emb ∧ as.length = j ∧ (∀ a ∈ as, P a) ∧ Flo m m' i) ds ⟨[], rfl, rfl, by simp, Flo.refl hf⟩ ?_
  rintro j d m' acc hd hj ⟨as, rfl, hlen, hP, hfl⟩
  rw [tri_bind]
  refine (h d m' hd hfl).mono fun η1 m1 h1 => ?_
  simp only [ap_yes, noX_ok, bind_ok, if_true]
  rw [tri_bind]
  refine h1.mono fun y m2 ⟨a, ha, hPa, hfl2⟩ => ?_
  subst ha
  rw [List.length_map, hlen, if_pos (size_lt (by omega))]
  exact ⟨as ++ [a], by simp, by simp [hlen], fun b hb => by
    rcases List.mem_append.mp hb with hb | hb
    · exact hP b hb
    · simp at hb; subst hb; exact hPa, hfl2⟩
end Mir

/-! Mir: mirrors that laws share (printed by share.py). -/
namespace Mir.Y
open PySem PySem.Spec PyProof.Rows L2 Mir
def b__law_flow : SM := (mRet (mLst true (mCons (mCB (bList false) (mCons (mVar 0) mNil)) (mCons (mC (.int 0)) (mCons (mC (.int 0)) (mCons (mC (.int 1)) (mCons (mC (.int 0)) mNil)))))))
def m__law_flow : FM := mFn 1 1 b__law_flow
def b__law_pick_0s2 : SM := (mIfS (mTest (mOp gGe (mVar 2) (mOp gPow (mC (.int 10)) (mC (.int 18))))) (mAsg (mVar 2) (gSubT (mVar 0) (mC (.int 2)))) (mAsg (mOp gMod (mOp (gAdd false) (mOp (gAdd false) (mOp gMulI (mOp gIx (mVar 0) (mC (.int 3))) (mC (.int 40013))) (mOp gMod (mVar 2) (mC (.int 1000003)))) (mC (.int 1))) (mC (.int 2147483647))) (gSubT (mVar 0) (mC (.int 3)))))
def b__law_pick_0s1 : SM := mSeq (mAsg (mOp (gAdd false) (mOp gIx (mVar 0) (mC (.int 1))) (mC (.int 1))) (gSubT (mVar 0) (mC (.int 1)))) b__law_pick_0s2
def b__law_pick_0 : SM := mSeq (mAsg (mOp gIx (mOp gIx (mVar 0) (mC (.int 0))) (mOp gIx (mVar 0) (mC (.int 1)))) (gNm 2)) b__law_pick_0s1
def b__law_pick_1s2 : SM := (mRet (mVar 3))
def b__law_pick_1s1 : SM := mSeq (mAsg (mOp gFdiv (mOp gIx (mVar 0) (mC (.int 2))) (mVar 1)) (gSubT (mVar 0) (mC (.int 2)))) b__law_pick_1s2
def b__law_pick_1 : SM := mSeq (mAsg (mOp gMod (mOp gIx (mVar 0) (mC (.int 2))) (mVar 1)) (gNm 3)) b__law_pick_1s1
def b__law_pick_s4 : SM := (mRet (mOp gMod (mOp gFdiv (mOp gMod (mOp gMulI (mOp (gAdd false) (mOp gMod (mOp gIx (mVar 0) (mC (.int 3))) (mC (.int 65521))) (mC (.int 1))) (mOp (gAdd false) (mOp gFdiv (mOp gIx (mVar 0) (mC (.int 3))) (mC (.int 65521))) (mC (.int 7919)))) (mC (.int 1000003))) (mC (.int 7))) (mVar 1)))
def b__law_pick_s3 : SM := mSeq (mAsg (mOp gMod (mOp (gAdd false) (mOp (gAdd false) (mOp gMulI (mOp gIx (mVar 0) (mC (.int 3))) (mC (.int 48271))) (mC (.int 12820163))) (mOp gIx (mVar 0) (mC (.int 4)))) (mC (.int 2147483647))) (gSubT (mVar 0) (mC (.int 3)))) b__law_pick_s4
def b__law_pick_s2 : SM := mSeq (mAsg (mOp (gAdd false) (mOp gIx (mVar 0) (mC (.int 4))) (mC (.int 1))) (gSubT (mVar 0) (mC (.int 4)))) b__law_pick_s3
def b__law_pick_s1 : SM := mSeq (mIfS (mTest (mOp gGt (mOp gIx (mVar 0) (mC (.int 2))) (mC (.int 0)))) b__law_pick_1 mSkip) b__law_pick_s2
def b__law_pick : SM := mSeq (mIfS (mAnd (mTest (mOp (gEq false) (mOp gIx (mVar 0) (mC (.int 2))) (mC (.int 0)))) (mTest (mOp gLt (mOp gIx (mVar 0) (mC (.int 1))) (mCB bLen (mCons (mOp gIx (mVar 0) (mC (.int 0))) mNil))))) b__law_pick_0 mSkip) b__law_pick_s1
def m__law_pick : FM := mFn 2 4 b__law_pick
def b__law_word_s3 : SM := (mRet (mVar 2))
def b__law_word_s2 : SM := mSeq (mIfS (mTest (mOp (gIn false) (mVar 2) (mTup (mCons (mC (.str (Str.ofString "deeds"))) (mCons (mC (.str (Str.ofString "room"))) (mCons (mC (.str (Str.ofString "heap"))) (mCons (mC (.str (Str.ofString "map"))) (mCons (mC (.str (Str.ofString "yard"))) mNil)))))))) (mAsg (mOp (gAdd false) (mSl (gSl false) (mVar 2) mNoPart (mPart (mUn gNeg (mC (.int 1))))) (mC (.str (Str.ofString "q")))) (gNm 2)) mSkip) b__law_word_s3
def b__law_word_s1 : SM := mSeq (mAsg (mBM "str" gJoin (mC (.str (Str.ofString ""))) (mCons (mLc [3] false (mRng1 (mOp (gAdd false) (mC (.int 1)) (mCall m__law_pick (mCons (mVar 0) (mCons (mC (.int 6)) mNil))))) (gNm 3) mYes (mOp gIx (mVar 1) (mCall m__law_pick (mCons (mVar 0) (mCons (mC (.int 26)) mNil))))) mNil)) (gNm 2)) b__law_word_s2
def b__law_word : SM := mSeq (mAsg (mC (.str (Str.ofString "abcdefghijklmnopqrstuvwxyz"))) (gNm 1)) b__law_word_s1
def m__law_word : FM := mFn 1 4 b__law_word
end Mir.Y

/-! Mir: `is True`. -/
namespace Mir
open PySem PySem.Spec PyProof.Rows L2
section
variable {X : Cx} {E : XK}
end
end Mir

/-! Mir, dicts: keys that are ints or texts (dK), keys that are tuples of ints (dT). -/
namespace Mir
open PySem PySem.Spec PyProof.Rows L2

section
variable {κ : Type} [DecidableEq κ]
def valD (kvs : List (κ × D)) (k : κ) : Option D := (kvs.find? fun kv => decide (kv.1 = k)).map (·.2)
end
/-! ### entries -/
section
variable {κ : Type} [DecidableEq κ] {K : PySem.W.Frag} {W : Wd} {H : Hp}
theorem valD_rep : ∀ {kvs : List (κ × D)} {us : List (κ × V)}, us.map (·.1) = kvs.map (·.1) → Reps K W H (kvs.map (·.2)) (us.map (·.2)) → ∀ k, match valD kvs k with
    | some d => ∃ v, valV us k = some v ∧ Rep K W H d v
    | none => valV us k = none
  | [], us, h, r, k => by
    cases us with
    | nil => rfl
    | cons u us => cases h
  | kv :: kvs, us, h, r, k => by
    cases us with
    | nil => cases h
    | cons u us =>
      rw [List.map_cons, List.map_cons] at h
      injection h with h1 h2
      obtain ⟨v, t, e, r1, r2⟩ := r.cons'
      rw [List.map_cons] at e
      injection e with e1 e2
      subst e1 e2
      by_cases hk : kv.1 = k
      · have : valD (kv :: kvs) k = some kv.2 := by simp [valD, List.find?_cons, hk]
        rw [this]
        exact ⟨u.2, valV_pos (h1.trans hk), r1⟩
      · have : valD (kv :: kvs) k = valD kvs k := by simp [valD, List.find?_cons, hk]
        rw [this, valV_neg (fun e => hk (h1 ▸ e))]
        exact valD_rep h2 r2 k
end
/-! ### a dict of tuples in the heap -/
abbrev kvI (p : List Int × Addr × V) (q : List Int × Addr × Value) : Prop := p.1 = q.1 ∧ p.2.1 = q.2.1 ∧ RelV p.2.2 q.2.2
theorem items_int {P : Program} {w : World} : ∀ {ks : List Int} {us : List Value}, Vals (ks.map V.int) us → ItemsAre (intKind P w) ks us
  | [], _, r => by rw [List.map_nil] at r; cases r; exact .nil
  | k :: ks, _, r => by
    rw [List.map_cons] at r
    cases r with
    | @cons _ b _ _ h t =>
      obtain ⟨tk, e⟩ := (show ∃ tk, b = Value.int k tk from h)
      subst e
      exact .cons (by simp [intKind, Value.isInt]) (items_int t)
section
variable {X : Cx} {E : XK} {pins : List (Addr × Obj)} {σ : SL} {H : Hp} {s : Shared} {a : Addr}
theorem sqF_key {b : Addr} {k : List Int} (I : Inv X pins σ H s) (q : SqF X.K H b (k.map V.int)) : (tupleKind (intKind X.prog X.w)).is s.heap k b := by
  obtain ⟨its, r, ⟨o, h1, h2, n, h3⟩, _⟩ := I.tuple q.t
  exact ⟨o, its.toArray, n, h1, h2, h3, by simpa using items_int r⟩
theorem dictI_of {us : List (List Int × Addr × V)} (I : Inv X pins σ H s) (e : Rd H a (dictI a us)) (ks : ∀ x ∈ us, SqF X.K H x.2.1 (x.1.map V.int)) : us.length ≤ sizeLine ∧ (a == sysModules) = false ∧
    ∃ xs, Paired kvI us xs ∧ s.heap.DictOfH (tupleKind (intKind X.prog X.w)) a xs := by
  have e' : ObjOk X.prog X.w H s.heap a (dictI a us) := by
    rcases e with e | ⟨od, e⟩
    · exact I.hok a _ e
    · exact (I.hok a _ e).2
  obtain ⟨⟨z, y, xs, r, o, es, ep, h1, h2, h3, h4, h5⟩, _⟩ := e'
  refine ⟨z, y, xs, r, o, es, ep, h1, h2, h3, h4, fun x hx => ?_, h5⟩
  have all : ∀ {us : List (List Int × Addr × V)} {xs : List (List Int × Addr × Value)}, Paired kvI us xs → (∀ x ∈ us, SqF X.K H x.2.1 (x.1.map V.int)) → ∀ x ∈ xs, (tupleKind (intKind X.prog X.w)).is s.heap x.1 x.2.1 := by
    intro us xs r
    induction r with
    | nil => intro _ x hx; exact nomatch hx
    | @cons p q ps qs hq t ih =>
      intro ks x hx
      rcases List.mem_cons.mp hx with e | hx
      · rw [e, ← hq.1, ← hq.2.1]
        exact sqF_key I (ks p List.mem_cons_self)
      · exact ih (fun x h => ks x (List.mem_cons_of_mem _ h)) x hx
  exact all r ks x hx
/-- what a dict cell holds -/
structure DRep (X : Cx) (W : Wd) (H : Hp) (a : Addr) (kvs : List (List Int × D)) (us : List (List Int × Addr × V)) : Prop where
  at' : H a = some (dictI a us)
  ks : us.map (·.1) = kvs.map (·.1)
  sq : ∀ x ∈ us, SqF X.K H x.2.1 (x.1.map V.int)
  vs : Reps X.K W H (kvs.map (·.2)) (us.map (·.2.2))
theorem DRep.val {W : Wd} {kvs : List (List Int × D)} {us : List (List Int × Addr × V)} (h : DRep X W H a kvs us) (k : List Int) : match valD kvs k with
    | some d => ∃ v, valV (us.map fun x => (x.1, x.2.2)) k = some v ∧ Rep X.K W H d v
    | none => valV (us.map fun x => (x.1, x.2.2)) k = none :=
  valD_rep (us := us.map fun x => (x.1, x.2.2)) (by rw [List.map_map]; exact h.ks) (by rw [List.map_map]; exact h.vs) k
end
end Mir

/-! Mir, dicts: the rules. -/
namespace Mir
open PySem PySem.Spec PyProof.Rows L2
section
variable {X : Cx} {E : XK} {pins : List (Addr × Obj)} {σ : SL} {H : Hp} {s : Shared} {W : Wd} {m : Mem}
def RepO (K : PySem.W.Frag) (W : Wd) (H : Hp) (o : Option D) (w : Option V) : Prop := match o with
  | some d => ∃ v, w = some v ∧ Rep K W H d v
  | none => w = none
theorem RepO.iso {K : PySem.W.Frag} {W : Wd} {H : Hp} {o : Option D} {w : Option V} (h : RepO K W H o w) : w.isSome = o.isSome := by
  cases o with
  | none => rw [show w = none from h]; rfl
  | some d => obtain ⟨v, e, _⟩ := h; rw [e]; rfl
theorem dgk {a : Addr} {us : List (Key × V)} {k : Key} (e : Rd H a (.dK us)) : DGet H a (kV k) (valV us k) := .inl ⟨us, k, e, rfl, rfl⟩
/-- a look-up: in a dict of either sort -/
inductive Look' (X : Cx) (W : Wd) (H : Hp) (a : Addr) (y : V) (o : Option D) : Prop where
  | k (us : List (Key × V)) (k : Key) (w : Option V) (h : Rd H a (.dK us)) (hy : y = kV k) (hw : valV us k = w) (hr : RepO X.K W H o w)
  | t (us : List (List Int × Addr × V)) (k : List Int) (b : Addr) (w : Option V) (h : Rd H a (dictI a us)) (ks : ∀ x ∈ us, SqF X.K H x.2.1 (x.1.map V.int)) (hy : y = .ref b) (hb : SqF X.K H b (k.map V.int)) (hw : valV (us.map fun x => (x.1, x.2.2)) k = w) (hr : RepO X.K W H o w)
theorem Look'.typeIs {a : Addr} {y : V} {o : Option D} (I : Inv X pins σ H s) (l : Look' X W H a y o) : s.TypeIs (.ref a) "dict" := by
  cases l with
  | k us k w h hy hw hr => exact dict_typeIs I (dgk (k := k) h)
  | t us k b w h ks hy hb hw hr =>
    obtain ⟨_, _, xs, _, dd⟩ := dictI_of I h ks
    exact dd.typeIs
/-! ### a store -/
end
end Mir

/-! Mir, dicts: new ones, displays, len. -/
namespace Mir
open PySem PySem.Spec PyProof.Rows L2
section
variable {X : Cx} {E : XK} {pins : List (Addr × Obj)} {σ : SL} {H : Hp} {s : Shared} {W : Wd} {m : Mem}
end
end Mir

/-! Mir: mirrors that laws share (printed by share2.py). -/
namespace Mir.Y
open PySem PySem.Spec PyProof.Rows L2 Mir
end Mir.Y

/-! Mir: len(set(..)) of whole numbers, shifts. -/
namespace Mir
open PySem PySem.Spec PyProof.Rows L2
/-- the unlike numbers, as they come up -/
def unl (ns : List Int) : List Int := ns.foldl PyProof.Rows.step_dedup []
theorem step_any (l : List Int) (x : Int) : PyProof.Rows.step_dedup l x = if x ∈ l then l else l ++ [x] := by
  show (if l.any (· == x) = true then l else l ++ [x]) = _
  by_cases h : x ∈ l
  · rw [if_pos h, if_pos (List.any_eq_true.mpr ⟨x, h, by simp⟩)]
  · rw [if_neg h, if_neg]
    intro q
    obtain ⟨y, hy, e⟩ := List.any_eq_true.mp q
    rw [eq_of_beq e] at hy
    exact h hy
theorem unl_from : ∀ (ns l : List Int), l.Nodup → (ns.foldl PyProof.Rows.step_dedup l).Nodup ∧ ∀ x, x ∈ ns.foldl PyProof.Rows.step_dedup l ↔ x ∈ l ∨ x ∈ ns
  | [], l, h => ⟨h, fun x => by simp⟩
  | n :: ns, l, h => by
    have h1 : (PyProof.Rows.step_dedup l n).Nodup := by
      rw [step_any]
      split
      · exact h
      · rename_i hn
        exact List.nodup_append.mpr ⟨h, by simp, fun a ha b hb => by
          have : b = n := by simpa using hb
          rintro rfl
          exact hn (this ▸ ha)⟩
    obtain ⟨h2, h3⟩ := unl_from ns (PyProof.Rows.step_dedup l n) h1
    refine ⟨h2, fun x => ?_⟩
    rw [List.foldl_cons, h3 x, step_any, List.mem_cons]
    split
    · rename_i hn
      constructor
      · rintro (a | a)
        · exact .inl a
        · exact .inr (.inr a)
      · rintro (a | rfl | a)
        · exact .inl a
        · exact .inl hn
        · exact .inr a
    · rw [List.mem_append, List.mem_singleton, or_assoc]
theorem unl_nodup (ns : List Int) : (unl ns).Nodup := (unl_from ns [] .nil).1
theorem unl_mem {ns : List Int} {x : Int} : x ∈ unl ns ↔ x ∈ ns := by
  rw [show unl ns = ns.foldl PyProof.Rows.step_dedup [] from rfl, (unl_from ns [] .nil).2 x]
  simp
theorem nodup_le {α : Type} [DecidableEq α] : ∀ (l k : List α), l.Nodup → (∀ x ∈ l, x ∈ k) → l.length ≤ k.length
  | [], _, _, _ => Nat.zero_le _
  | x :: l, k, hn, hs => by
    obtain ⟨h1, h2⟩ := List.nodup_cons.mp hn
    have hx : x ∈ k := hs x List.mem_cons_self
    have ih := nodup_le l (k.erase x) h2 fun y hy => by
      have hne : y ≠ x := fun e => h1 (e ▸ hy)
      exact (List.mem_erase_of_ne hne).2 (hs y (List.mem_cons_of_mem _ hy))
    have e := List.length_erase_of_mem hx
    have hp : 0 < k.length := List.length_pos_of_mem hx
    rw [List.length_cons]
    omega
theorem unl_is {ns l : List Int} (h : l.Nodup) (h2 : ∀ x, x ∈ l ↔ x ∈ ns) : (unl ns).length = l.length :=
  Nat.le_antisymm (nodup_le _ _ (unl_nodup ns) fun x hx => (h2 x).mpr (unl_mem.mp hx)) (nodup_le _ _ h fun x hx => unl_mem.mpr ((h2 x).mp hx))
theorem unl_all {ns : List Int} : (unl ns).length = ns.length ↔ ns.Nodup := by
  constructor
  · intro h
    have key : ∀ (ns l : List Int), (ns.foldl PyProof.Rows.step_dedup l).length = l.length + ns.length → l.Nodup → (l ++ ns).Nodup := by
      intro ns
      induction ns with
      | nil => intro l _ h; simpa using h
      | cons n ns ih =>
        intro l h hl
        have hle : ∀ (ns l : List Int), (ns.foldl PyProof.Rows.step_dedup l).length ≤ l.length + ns.length := by
          intro ns
          induction ns with
          | nil => intro l; simp
          | cons n ns ih =>
            intro l
            have := ih (PyProof.Rows.step_dedup l n)
            have h2 : (PyProof.Rows.step_dedup l n).length ≤ l.length + 1 := by rw [step_any]; split <;> simp
            rw [List.foldl_cons, List.length_cons]
            omega
        have h1 := hle ns (PyProof.Rows.step_dedup l n)
        rw [List.foldl_cons, List.length_cons] at h
        by_cases hn : n ∈ l
        · rw [step_any, if_pos hn] at h h1
          omega
        · have e : PyProof.Rows.step_dedup l n = l ++ [n] := by rw [step_any, if_neg hn]
          rw [e] at h
          have := ih (l ++ [n]) (by rw [h]; simp; omega) (List.nodup_append.mpr ⟨hl, by simp, fun a ha b hb => by
            have : b = n := by simpa using hb
            rintro rfl
            exact hn (this ▸ ha)⟩)
          simpa using this
    have := key ns [] (by show (unl ns).length = _; rw [h]; simp) .nil
    simpa using this
  · intro h
    exact unl_is h fun x => Iff.rfl
section
variable {X : Cx} {E : XK}
end
end Mir

/-! Mir: shifts, d.setdefault(k, x), max(.., default=x). -/
namespace Mir
open PySem PySem.Spec PyProof.Rows L2
section
variable {X : Cx} {E : XK}
end
/-! ### setdefault -/
section
variable {X : Cx} {E : XK}
end
/-! ### max(.., default=d) -/
section
variable {prog : Program} {w : World} {A : Around} {R' : Result → Shared → Prop} {J : Addr} {fp wr : List Addr} {n : Nat} {P : Nat → Value → Prop} {St : Nat → Heap → Prop}
end
section
variable {prog : Program} {w : World} {A : Around} {Ex : Value → Shared → Prop} {s : Shared}
end
section
variable {X : Cx} {E : XK}
end
end Mir

/-! Mir: walks over a dict's keys: the dict is locked from then on. -/
namespace Mir
open PySem PySem.Spec PyProof.Rows L2
section
variable {X : Cx} {E : XK} {pins : List (Addr × Obj)} {σ : SL} {H : Hp} {s : Shared} {W : Wd} {m : Mem}
end
section
variable {P : Program} {w : World} {K : PySem.W.Frag} {tg : Expr} {d : Addr} {o : Obj} {es : Array DictEntry} {ep : Nat}
end
section
variable {X : Cx} {E : XK} {tg it : Expr} {W : Wd} {H : Hp} {m : Mem}
end
end Mir

/-! Mir: sorted(set(..)) of texts. -/
namespace Mir
open PySem PySem.Spec PyProof.Rows L2
def txOf (e : Int × Value) : Str := match e.2 with
  | .str x _ => x
  | _ => Str.empty
section
variable {P : Program} {w : World}
def TxE (P : Program) (w : World) (e : Int × Value) : Prop := ∃ x t, e.2 = Value.str x t ∧ e.1 = (strKind P w).hash x
/-- a set of texts, all that have been added -/
def SetTx (P : Program) (w : World) (h : Heap) (a : Addr) (xs : List Str) : Prop :=
  ∃ o es ep t, h.get? a = some o ∧ o.ExactSet ∧ o.data = .set es ep t ∧ ((∀ e ∈ es.toList, TxE P w e) ∧ (es.toList.map txOf).Nodup ∧ ∀ x, x ∈ es.toList.map txOf ↔ x ∈ xs) ∧ (es.size < scanBound ∧ es.size ≤ xs.length) ∧ t.fits es.size = true ∧ Ris t.place.toList ∧ (w.params.followText "set-order" = true ∨ t.led = true)
theorem SetTx.at {h h' : Heap} {a : Addr} {xs : List Str} (R : SetTx P w h a xs) (k : ∀ o, h.get? a = some o → h'.get? a = some o) : SetTx P w h' a xs := by
  obtain ⟨o, es, ep, t, ho, r⟩ := R
  exact ⟨o, es, ep, t, k o ho, r⟩
variable {A : Around} {Ex : Value → Shared → Prop} {s : Shared} {a : Addr} {xs : List Str}
end
end Mir

/-! Mir: sorted(set(xs)) of texts. -/
namespace Mir
open PySem PySem.Spec PyProof.Rows L2
section
variable {P : Program} {w : World} {A : Around} {Ex : Value → Shared → Prop} {s : Shared} {a : Addr} {xs : List Str}
end
section
variable {X : Cx} {E : XK}
end
end Mir

/-! Mir: dict(a list of pairs): keys ints or texts. -/
namespace Mir
open PySem PySem.Spec PyProof.Rows L2
section
variable {X : Cx} {E : XK} {K : PySem.W.Frag} {W : Wd} {H : Hp}
end
section
variable {X : Cx} {E : XK}
end
/-! ### keys that are tuples of ints -/
section
variable {K : PySem.W.Frag} {W : Wd} {H : Hp}
end
section
variable {X : Cx} {E : XK} {pins : List (Addr × Obj)} {σ : SL} {H : Hp} {s : Shared}
end
end Mir

/-! Mir: mirrors that laws share (printed by share3.py). -/
namespace Mir.Y
open PySem PySem.Spec PyProof.Rows L2 Mir
end Mir.Y

/-! Mir: three names at once. -/
namespace Mir
open PySem PySem.Spec PyProof.Rows L2
section
variable {X : Cx} {E : XK} {pos : Pos}
end
end Mir

/-! Mir: sorted of a tuple of texts. -/
namespace PyProof.Rows
open PySem PySem.Spec
section
variable {prog : Program} {w : World} {A : Around} {E : Value → Shared → Prop} {s : Shared}
end
end PyProof.Rows
namespace Mir
open PySem PySem.Spec PyProof.Rows L2
section
variable {X : Cx} {E : XK}
end
end Mir

/-! Mir: mirrors that laws share (printed by share4.py). -/
namespace Mir.Y
open PySem PySem.Spec PyProof.Rows L2 Mir
end Mir.Y

/-! Mir: mirrors that laws share (printed by shareV.py). -/
namespace Mir.V
open PySem PySem.Spec PyProof.Rows L2 Mir Mir.Y
end Mir.V

/-! Mir: mirrors that laws share, with their constants (printed by share5.py). -/
namespace Mir.Y
open PySem PySem.Spec PyProof.Rows L2 Mir
end Mir.Y

/-! Mir: mirrors that laws share, with their constants (printed by share6.py). -/
namespace Mir.Y
open PySem PySem.Spec PyProof.Rows L2 Mir
end Mir.Y

/-! exceptions that are caught and kept: try .. except X as n, the exception tracked from the catch on -/
namespace Mir
open PySem PySem.Spec PyProof.Rows L2
section
variable {P : Program} {w : World} {H : Hp} {h : Heap} {a : Addr} {cls : Value} {d : Option Addr}
theorem exH_ok {oe : Obj} {vs : Array Value} (e : h.get? a = some oe) (z : Zc cls d oe) (hd : oe.data = .fields vs) : ObjOk P w H h a (ExH cls d a) :=
  ⟨⟨oe, vs, e, z, hd⟩, ⟨oe, e⟩, fun _ _ ⟨o, v, q, r⟩ k => ⟨o, v, k o q, r⟩⟩
theorem exH_at (hok : HOk P w H h) (he : H a = some (ExH cls d a)) : ∃ (oe : Obj) (vs : Array Value), h.get? a = some oe ∧ Zc cls d oe ∧ oe.data = .fields vs := (hok a _ he).1
end
section
variable {X : Cx} {pins : List (Addr × Obj)} {σ : SL} {H : Hp} {s : Shared}
end
/-- an except clause: its class, the slot of its name, what its suite wishes -/
structure Hdl where
  c : Value
  i : Option Nat
  ts : TS
def Hdl.ends (D : Ends) : Option Nat → Ends
  | none => D
  | some i => { nx := fun σ' H' => D.nx (σ'.set i none) H', rt := D.rt, bk := fun σ' H' => D.bk (σ'.set i none) H', ct := fun σ' H' => D.ct (σ'.set i none) H' }
def Hdl.put (σ : SL) (a : Addr) : Option Nat → SL
  | none => σ
  | some i => σ.set i (some (.ref a))
inductive HdsH (X : Cx) : List ExceptHandler → List Hdl → Prop
  | nil : HdsH X [] []
  | cons0 {x : Str} {c : Value} {ts : TS} {b₀ : Stmt} {suite : List Stmt} {np pos' : Pos} {hds : List ExceptHandler} {l : List Hdl} (hc : Names X x c)
      (hsu : ∀ (a : Addr) (pn : List (Addr × Obj)), PSs (X.suite a pn) (b₀ :: suite) ts) (r : HdsH X hds l) :
      HdsH X (.ExceptHandler (some (.Name x np)) none (b₀ :: suite) pos' :: hds) (⟨c, none, ts⟩ :: l)
  | cons {x n : Str} {c : Value} {i : Nat} {ts : TS} {b₀ : Stmt} {suite : List Stmt} {np pos' : Pos} {hds : List ExceptHandler} {l : List Hdl} (hc : Names X x c) (hi : X.N[i]? = some n) (hln : X.env.kindOf n = some .local)
      (hsu : ∀ (a : Addr) (pn : List (Addr × Obj)), PSs (X.suite a pn) (b₀ :: suite) ts) (r : HdsH X hds l) :
      HdsH X (.ExceptHandler (some (.Name x np)) (some n) (b₀ :: suite) pos' :: hds) (⟨c, some i, ts⟩ :: l)
section
variable {X : Cx} {body : List Stmt} {h₀ : ExceptHandler} {hds : List ExceptHandler} {l : List Hdl} {pos : Pos} {tb : WX → TS} {Wout : WX}
end
end Mir

/-! exceptions: the mirrors of try, raise, isinstance of what was caught, its fields, defs that may raise -/
namespace Mir
open PySem PySem.Spec PyProof.Rows L2
/-! ### what the classes are to one another -/
/-- the class that a name tells -/
def ClV (mg : Str → Option Value) (y : Str) (D : Value) : Prop := mg y = some D ∨ (mg y = none ∧ bootBuiltins y = some D ∧ y ≠ "__name__")
theorem ClV.uniq {mg : Str → Option Value} {y : Str} {D D' : Value} (h : ClV mg y D) (h' : ClV mg y D') : D = D' := by
  rcases h with h | ⟨h, k, _⟩ <;> rcases h' with h' | ⟨h', k', _⟩
  · rw [h] at h'; exact Option.some.inj h'
  · rw [h] at h'; cases h'
  · rw [h] at h'; cases h'
  · rw [k] at k'; exact Option.some.inj k'
/-- isinstance of an exception of the class x, asked for y -/
def IsK (K : PySem.W.Frag) (mg : Str → Option Value) (x y : Str) (b : Bool) : Prop := ∀ C D, mg x = some C → ClV mg y D → PySem.W.kitOne K C D = some b
/-- except y, of an exception of the class x -/
def ExK (K : PySem.W.Frag) (mg : Str → Option Value) (x y : Str) (b : Bool) : Prop := ∀ C D, mg x = some C → ClV mg y D → PySem.W.exmOne K C D = some b
theorem isK_of {K : PySem.W.Frag} {mg : Str → Option Value} {x y : Str} {b : Bool} {C D : Value} (hC : mg x = some C) (hD : ClV mg y D) (h : PySem.W.kitOne K C D = some b) : IsK K mg x y b := fun C' D' h1 h2 => by
  rw [hC] at h1
  cases h1
  cases hD.uniq h2
  exact h
inductive AnyK (K : PySem.W.Frag) (mg : Str → Option Value) (x : Str) : List Str → Bool → Prop
  | nil : AnyK K mg x [] false
  | hit {y : Str} {ys : List Str} (h : IsK K mg x y true) : AnyK K mg x (y :: ys) true
  | miss {y : Str} {ys : List Str} {b : Bool} (h : IsK K mg x y false) (r : AnyK K mg x ys b) : AnyK K mg x (y :: ys) b
inductive ClVs (mg : Str → Option Value) : List Str → List Value → Prop
  | nil : ClVs mg [] []
  | cons {y : Str} {ys : List Str} {D : Value} {Ds : List Value} (h : ClV mg y D) (r : ClVs mg ys Ds) : ClVs mg (y :: ys) (D :: Ds)
theorem AnyK.kit {K : PySem.W.Frag} {mg : Str → Option Value} {x : Str} {ys : List Str} {b : Bool} (h : AnyK K mg x ys b) {C : Value} (hC : mg x = some C) : ∀ {Ds : List Value}, ClVs mg ys Ds → PySem.W.kitAny K C Ds = some b := by
  induction h with
  | nil => intro Ds hd; cases hd; rfl
  | hit h =>
    intro Ds hd
    cases hd with
    | cons h1 r =>
      unfold PySem.W.kitAny
      rw [h _ _ hC h1]
  | miss h _ ih =>
    intro Ds hd
    cases hd with
    | cons h1 r =>
      unfold PySem.W.kitAny
      rw [h _ _ hC h1]
      exact ih r
/-- a table: of each class that may be raised, what is answered -/
def TblA (K : PySem.W.Frag) (mg : Str → Option Value) (ys : List Str) (tb : List (Str × Bool)) : Prop := ∀ x b, tb.lookup x = some b → AnyK K mg x ys b
def TblE (K : PySem.W.Frag) (mg : Str → Option Value) (y : Str) (tb : List (Str × Bool)) : Prop := ∀ x b, tb.lookup x = some b → ExK K mg x y b
theorem tblA_nil {K : PySem.W.Frag} {mg : Str → Option Value} {ys : List Str} : TblA K mg ys [] := fun _ _ h => by cases h
theorem tblA_cons {K : PySem.W.Frag} {mg : Str → Option Value} {ys : List Str} {x : Str} {b : Bool} {tb : List (Str × Bool)} (h : AnyK K mg x ys b) (r : TblA K mg ys tb) : TblA K mg ys ((x, b) :: tb) := fun z c e => by
  rw [List.lookup_cons] at e
  split at e
  · rename_i q
    cases e
    rw [beq_iff_eq.mp q]
    exact h
  · exact r z c e
/-! ### try -/
structure HdlM where
  tb : List (Str × Bool)
  i : Option Nat
  cs : SM
def RS.catch (r : RS) (f : Exn → Mem → RS) : RS := match r with
  | .exc x m => f x m
  | r => r
@[simp] theorem catch_nxt (η : Env') (m : Mem) (f : Exn → Mem → RS) : (RS.nxt η m).catch f = .nxt η m := nr rfl
@[simp] theorem catch_ret (d : D) (m : Mem) (f : Exn → Mem → RS) : (RS.ret d m).catch f = .ret d m := nr rfl
@[simp] theorem catch_brk (η : Env') (m : Mem) (f : Exn → Mem → RS) : (RS.brk η m).catch f = .brk η m := nr rfl
@[simp] theorem catch_cnt (η : Env') (m : Mem) (f : Exn → Mem → RS) : (RS.cnt η m).catch f = .cnt η m := nr rfl
@[simp] theorem catch_exc (x : Exn) (m : Mem) (f : Exn → Mem → RS) : (RS.exc x m).catch f = f x m := nr rfl
@[simp] theorem catch_stk (f : Exn → Mem → RS) : RS.stk.catch f = .stk := nr rfl
section
variable {X : Cx} {E : XK}
inductive HdsM (X : Cx) : List ExceptHandler → List HdlM → List Hdl → Prop
  | nil : HdsM X [] [] []
  | cons0 {x : Str} {c : Value} {tb : List (Str × Bool)} {cs : SM} {b₀ : Stmt} {suite : List Stmt} {np pos' : Pos} {hds : List ExceptHandler} {l : List HdlM} {l' : List Hdl} (hg : Gl X x) (hd : (x == ("__debug__" : Str)) = false) (hc : ClV X.mg x c)
      (ht : TblE X.K X.mg x tb) (hsu : ∀ (a : Addr) (pn : List (Addr × Obj)), MSs (X.suite a pn) E0 (b₀ :: suite) cs) (r : HdsM X hds l l') :
      HdsM X (.ExceptHandler (some (.Name x np)) none (b₀ :: suite) pos' :: hds) (⟨tb, none, cs⟩ :: l) (⟨c, none, rdS X.K X.mg E0 cs⟩ :: l')
  | cons {x n : Str} {c : Value} {i : Nat} {tb : List (Str × Bool)} {cs : SM} {b₀ : Stmt} {suite : List Stmt} {np pos' : Pos} {hds : List ExceptHandler} {l : List HdlM} {l' : List Hdl} (hg : Gl X x) (hd : (x == ("__debug__" : Str)) = false) (hc : ClV X.mg x c)
      (hi : X.N[i]? = some n) (hln : X.env.kindOf n = some .local) (ht : TblE X.K X.mg x tb) (hsu : ∀ (a : Addr) (pn : List (Addr × Obj)), MSs (X.suite a pn) E0 (b₀ :: suite) cs) (r : HdsM X hds l l') :
      HdsM X (.ExceptHandler (some (.Name x np)) (some n) (b₀ :: suite) pos' :: hds) (⟨tb, some i, cs⟩ :: l) (⟨c, some i, rdS X.K X.mg E0 cs⟩ :: l')
theorem HdsM.hold {hds : List ExceptHandler} {l : List HdlM} {l' : List Hdl} (h : HdsM X hds l l') : HdsH X hds l' := by
  induction h with
  | nil => exact .nil
  | cons0 hg hd hc ht hsu r ih => exact .cons0 ⟨hg, hd, hc⟩ hsu ih
  | cons hg hd hc hi hln ht hsu r ih => exact .cons ⟨hg, hd, hc⟩ hi hln hsu ih
/-! ### defs that may raise -/
def spX (K : PySem.W.Frag) (mg : Str → Option Value) (fm : FM) : Sp := fun vs H Q E => ∃ W m ds, Sim K mg W H m ∧ Reps K W H ds vs ∧ Post K mg E (Rep K) W H Q (fm ds m)
end
section
variable {P : Program} {w : World} {K : PySem.W.Frag} {mg : Str → Option Value} {base : Heap}
structure FnX (P : Program) (w : World) (K : PySem.W.Frag) (mg : Str → Option Value) (base : Heap) (k : Nat) (x : Str) (ps : List Str) (fm : FM) : Prop where
  ex : ∃ f fd, mg x = some (.ref f) ∧ PySem.W.keepIn K (.ref f) = true ∧ Binds K fd ps [] ∧ FnOk P w K mg base (L2.CX P w) k f fd ps (spX K mg fm)
end
section
variable {X : Cx} {E : XK} {k : Nat} {x : Str} {ps : List Str} {fm : FM} {p pos : Pos} {e : Expr} {es : List Expr} {ca : AM}
end
end Mir

/-! exceptions: raise of an own class, whose __init__ is walked; isinstance of what was caught; its fields -/
namespace Mir
open PySem PySem.Spec PyProof.Rows L2
/-! ### Base.__init__(self, text), Base an own class over ValueError -/
structure LoomC (K : PySem.W.Frag) (B : Addr) : Prop where
  sp : PySem.W.specialIn K (.ref B) "__getattribute__" = some (some (.builtin "type.__getattribute__"))
  ty : PySem.W.typeIn K (.ref B) = some (.type "type")
  rd : PySem.W.readsIn K B (.type "type") = true
  fc : PySem.W.findCls K (.ref B) (.type "type") "__init__" = some (.val (.builtin "ValueError.__init__"))
section
variable {X : Cx} {e : Expr} {es : List Expr} {ta : TA} {p1 p2 pos : Pos} {x : Str} {B : Addr}
theorem pe_linit {pl : Sem Bool} (hg : Gl X x) (hm : X.mg x = some (.ref B)) (LB : LoomC X.K B) (ha : PA X (e :: es) ta) (hdb : (x == ("__debug__" : Str)) = false := by decide)
    (hc : eval (.Call (.Attribute (.Name x p1) "__init__" p2) (e :: es) [] pos) X.env = (do
      let ov ← eval (.Name x p1) X.env
      standAt p2.atName
      let (f, first) ← holding [ov] (getMethod ov "__init__" pl)
      callWith pos f first (backTo pos (starEach (e :: es) X.env)) (backToKw pos (keywordEach [] X.env))) := by rfl)
    (he : starEach (e :: es) X.env = (false, eval e X.env) :: starEach es X.env := by rfl) (hpl : (backTo pos (starEach es X.env)).any (·.1) = false := by rfl) :
    PE X (.Call (.Attribute (.Name x p1) "__init__" p2) (e :: es) [] pos) (tVeI X.K ta) := by
  refine ⟨fun pins s σ H Q I h => ?_⟩
  refine PySem.W.methodCall_KW (ld_glob I hg hm ?_ hdb) hc
  obtain ⟨m, fr⟩ := I.fr
  refine PySem.W.method_of_cls fr I.ok.mod.kin LB.sp (PySem.W.cls_val fr I.ok.mod.kin LB.ty LB.rd LB.fc (by decide +kernel) ?_)
  show wpAny _ _ (callWith pos (Value.builtin "ValueError.__init__") [] (backTo pos (starEach (e :: es) X.env)) []) _ _ _
  refine PyProof.Rows.callWith_method1 (thn (ha.run pos pins _ σ H _ (I.tok _) h) fun us s1 ⟨vs, H1, I1, r1, a, C, ws, ev, hl, T, ea, q⟩ => ?_) he hpl
  subst ev
  cases r1 with
  | @cons _ u0 _ ur ra rw' =>
    obtain rfl : u0 = Value.ref a := ra
    have hlen : ur.length ≤ sizeLine := by
      rw [← Paired.length rw', sizeLine_eq]
      omega
    exact oinit_ok T I1 ea hlen fun s' J => ⟨.non, H1, J, rfl, q⟩
end
/-! ### __init__ of one and of two fields -/
def spI1 (K : PySem.W.Frag) (f1 : Str) : Sp := fun vs H Q _ => ∃ a C y, vs = [.ref a, y] ∧ OexC K C ∧ PySem.W.findIn K (.ref C) f1 = some none ∧ H a = some (exo a C none) ∧
  ∀ dx, H dx = none → dx ≠ a → Q .non (upd (upd H dx (exd dx [(f1, y)])) a (exo a C (some dx)))
def spI2 (K : PySem.W.Frag) (f1 f2 : Str) : Sp := fun vs H Q _ => ∃ a C y z, vs = [.ref a, y, z] ∧ OexC K C ∧ PySem.W.findIn K (.ref C) f1 = some none ∧ PySem.W.findIn K (.ref C) f2 = some none ∧ H a = some (exo a C none) ∧
  ∀ dx, H dx = none → dx ≠ a → Q .non (upd (upd (upd H dx (exd dx [(f1, y)])) a (exo a C (some dx))) dx (exd dx [(f2, z), (f1, y)]))
section
variable {P : Program} {w : World} {K : PySem.W.Frag} {mg : Str → Option Value} {base : Heap}
theorem init1_ok {x qual f1 s1 a1 tx : Str} {st : Stmt} {f : Addr} {fd : FuncData} (F : Fun K x qual st f fd) (S : FnScope [s1, a1] [s1, a1] (defScope st))
    (h : ∀ (cdv : Value) (A : Around) (outer : List Env) (s : Shared) (H : Hp) (E : XK), PSs (cxOf CX0 P w K mg base [s1, a1] qual (defScope st) f cdv A outer s H E).nox (defBody st)
      (tSeq (tDrop (tVeI K (tCons (tVar 0) (tCons (tC (.str tx)) tNil)))) (tSeq (tOst K f1 (tVar 0) (tVar 1)) tNext))) : FnOk P w K mg base CX0 (0 + 1) f fd [s1, a1] (spI1 K f1) := by
  refine F.ok S (fun vs H Q E ⟨a, C, y, e, _⟩ => by rw [e]; rfl) fun cdv A outer s H vs Q E hr q => ⟨_, h cdv A outer s H E, ?_⟩
  obtain ⟨a, C, y, rfl, T, hno, ha, q⟩ := q
  exact ⟨.ref a, rfl, a, C, [.str tx], rfl, by simp, T, ha, y, rfl, .ref a, rfl, a, C, rfl, T, hno, .inl ⟨ha, fun dx n1 n2 => q dx n1 n2⟩⟩
theorem init2_ok {x qual f1 f2 s1 a1 a2 tx : Str} {st : Stmt} {f : Addr} {fd : FuncData} (F : Fun K x qual st f fd) (S : FnScope [s1, a1, a2] [s1, a1, a2] (defScope st))
    (h : ∀ (cdv : Value) (A : Around) (outer : List Env) (s : Shared) (H : Hp) (E : XK), PSs (cxOf CX0 P w K mg base [s1, a1, a2] qual (defScope st) f cdv A outer s H E).nox (defBody st)
      (tSeq (tDrop (tVeI K (tCons (tVar 0) (tCons (tC (.str tx)) tNil)))) (tSeq (tOst K f1 (tVar 0) (tVar 1)) (tSeq (tOst K f2 (tVar 0) (tVar 2)) tNext)))) : FnOk P w K mg base CX0 (0 + 1) f fd [s1, a1, a2] (spI2 K f1 f2) := by
  refine F.ok S (fun vs H Q E ⟨a, C, y, z, e, _⟩ => by rw [e]; rfl) fun cdv A outer s H vs Q E hr q => ⟨_, h cdv A outer s H E, ?_⟩
  obtain ⟨a, C, y, z, rfl, T, hno, hno2, ha, q⟩ := q
  refine ⟨.ref a, rfl, a, C, [.str tx], rfl, by simp, T, ha, y, rfl, .ref a, rfl, a, C, rfl, T, hno, .inl ⟨ha, fun dx n1 n2 => ?_⟩⟩
  refine ⟨z, rfl, .ref a, rfl, a, C, rfl, T, hno2, .inr ⟨dx, [(f1, y)], upd_same, by rw [upd_ne n2, upd_same], by simp, q dx n1 n2⟩⟩
end
/-! ### making and raising -/
/-- the class x makes exceptions of the fields fl (the last one stored first) by its own __init__ -/
structure XMk (P : Program) (w : World) (K : PySem.W.Frag) (mg : Str → Option Value) (base : Heap) (x : Str) (fl : List Str) : Prop where
  ex : ∃ (C fI : Addr) (fd : FuncData) (ps : List Str) (sp : Sp), mg x = some (.ref C) ∧ OexC K C ∧ PySem.W.findIn K (.ref C) "__init__" = some (some (.ref fI)) ∧ PySem.W.typeIn K (.ref fI) = some (.type "function") ∧ FnOk P w K mg base CX0 1 fI fd ps sp ∧ Binds K fd ps [] ∧
    ∀ (a : Addr) (vs : List V) (H : Hp) (Q : VK) (E : XK), vs.length = fl.length → H a = some (exo a C none) →
      (∀ dx, H dx = none → dx ≠ a → ∀ H2, H2 a = some (exo a C (some dx)) → H2 dx = some (exd dx (fl.zip vs).reverse) → (∀ b, b ≠ a → b ≠ dx → H2 b = H b) → Q .non H2) → sp (.ref a :: vs) H Q E
section
variable {P : Program} {w : World} {K : PySem.W.Frag} {mg : Str → Option Value} {base : Heap}
theorem xmk1 {x f1 : Str} {C fI : Addr} {fd : FuncData} {ps : List Str} (hm : mg x = some (.ref C)) (T : OexC K C) (hi : PySem.W.findIn K (.ref C) "__init__" = some (some (.ref fI))) (ht : PySem.W.typeIn K (.ref fI) = some (.type "function"))
    (F : FnOk P w K mg base CX0 (0 + 1) fI fd ps (spI1 K f1)) (B : Binds K fd ps []) (hno : PySem.W.findIn K (.ref C) f1 = some none) : XMk P w K mg base x [f1] :=
  ⟨C, fI, fd, ps, _, hm, T, hi, ht, F, B, fun a vs H Q E hl ha q => by
    match vs, hl with
    | [y], _ =>
      refine ⟨a, C, y, rfl, T, hno, ha, fun dx n1 n2 => q dx n1 n2 _ upd_same (by rw [upd_ne n2, upd_same]; rfl) fun b h1 h2 => by rw [upd_ne h1, upd_ne h2]⟩⟩
theorem xmk2 {x f1 f2 : Str} {C fI : Addr} {fd : FuncData} {ps : List Str} (hm : mg x = some (.ref C)) (T : OexC K C) (hi : PySem.W.findIn K (.ref C) "__init__" = some (some (.ref fI))) (ht : PySem.W.typeIn K (.ref fI) = some (.type "function"))
    (F : FnOk P w K mg base CX0 (0 + 1) fI fd ps (spI2 K f1 f2)) (B : Binds K fd ps []) (hno : PySem.W.findIn K (.ref C) f1 = some none) (hno2 : PySem.W.findIn K (.ref C) f2 = some none) : XMk P w K mg base x [f1, f2] :=
  ⟨C, fI, fd, ps, _, hm, T, hi, ht, F, B, fun a vs H Q E hl ha q => by
    match vs, hl with
    | [y, z], _ =>
      refine ⟨a, C, y, z, rfl, T, hno, hno2, ha, fun dx n1 n2 => q dx n1 n2 _ (by rw [upd_ne (Ne.symm n2), upd_same]) (by rw [upd_same]; rfl) fun b h1 h2 => by rw [upd_ne h2, upd_ne h1, upd_ne h2]⟩⟩
end
theorem reps_zip {K : PySem.W.Frag} {W : Wd} {H : Hp} {fl : List Str} {ds : List D} {vs : List V} (r : Reps K W H ds vs) (hl : ds.length = fl.length) :
    ((fl.zip vs).reverse.map (·.1)) = ((fl.zip ds).reverse.map (·.1)) ∧ Reps K W H ((fl.zip ds).reverse.map (·.2)) ((fl.zip vs).reverse.map (·.2)) := by
  have hv := r.length
  have e1 : (fl.zip vs).map (·.1) = fl := by rw [List.map_fst_zip (by omega)]
  have e2 : (fl.zip ds).map (·.1) = fl := by rw [List.map_fst_zip (by omega)]
  have e3 : (fl.zip vs).map (·.2) = vs := by rw [List.map_snd_zip (by omega)]
  have e4 : (fl.zip ds).map (·.2) = ds := by rw [List.map_snd_zip (by omega)]
  refine ⟨by rw [List.map_reverse, List.map_reverse, e1, e2], ?_⟩
  rw [List.map_reverse, List.map_reverse, e3, e4]
  exact r.reverse
section
variable {X : Cx} {E : XK} {x : Str} {fl : List Str} {p pos pos' : Pos} {e : Expr} {es : List Expr} {ca : AM}
end
end Mir

/-! exceptions: what was caught is asked for its fields and its class -/
namespace Mir
open PySem PySem.Spec PyProof.Rows L2
/-- what is wanted of the class of an exception that is asked -/
structure XKl (K : PySem.W.Frag) (C : Addr) : Prop where
  cl : (PySem.W.clsIn K C).isSome = true
  ga : PySem.W.findIn K (.ref C) "__getattribute__" = some (some (.builtin "BaseException.__getattribute__"))
  gg : PySem.W.findIn K (.ref C) "__getattr__" = some none
  sub : PySem.W.subIn K (.ref C) (.type "BaseException") = some true
  hd : PySem.W.hasDictIn K C = true
  ca : PySem.W.findIn K (.ref C) "__class__" = some (some (.builtin "object.__class__"))
  cn : PySem.W.specialIn K (.builtin "object.__class__") "__get__" = some (some (.builtin "getset_descriptor.__get__"))
  ct : PySem.W.takesIn K (.builtin "object.__class__") = some true
  cm : PySem.W.mroIn K C (.type "object") = some true
def XIn (K : PySem.W.Frag) (mg : Str → Option Value) (x : Str) : Prop := ∃ C, mg x = some (.ref C) ∧ XKl K C
def XFld (K : PySem.W.Frag) (mg : Str → Option Value) (x f : Str) : Prop := ∃ C, mg x = some (.ref C) ∧ XfC K C ∧ PySem.W.findIn K (.ref C) f = some none
def excOf (m : Mem) : D → Option Exn
  | .ref i => match m[i]? with
    | some (.exc c fs) => some ⟨c, fs⟩
    | _ => none
  | _ => none
def mXf (cs : List Str) (f : Str) (c : EM) : EM := fun η m => (c η m).bind fun x m1 => match excOf m1 x with
  | some e => if cs.contains e.cls = true then (match e.fs.lookup f with
    | some d => .ok d m1
    | none => .stk) else .stk
  | none => .stk
section
variable {K : PySem.W.Frag} {mg : Str → Option Value} {W : Wd} {H : Hp}
theorem lookup_map {α β : Type} {f : Str} : ∀ {fs : List (Str × α)} {gs : List (Str × β)} {R : α → β → Prop}, gs.map (·.1) = fs.map (·.1) → (∀ (i : Nat) (x : α), (fs.map (·.2))[i]? = some x → ∃ y, (gs.map (·.2))[i]? = some y ∧ R x y) → ∀ {d : α}, fs.lookup f = some d → ∃ v, gs.lookup f = some v ∧ R d v
  | [], gs, R, h1, h2, d, e => by cases e
  | (a, x) :: fs, [], R, h1, h2, d, e => by cases h1
  | (a, x) :: fs, (b, y) :: gs, R, h1, h2, d, e => by
    simp only [List.map_cons, List.cons.injEq] at h1
    obtain ⟨rfl, h1⟩ := h1
    rw [List.lookup_cons] at e ⊢
    cases q : (f == b) with
    | true =>
      rw [q] at e
      cases e
      obtain ⟨y', e1, e2⟩ := h2 0 x rfl
      have e1 : some y = some y' := e1
      cases e1
      exact ⟨y, rfl, e2⟩
    | false =>
      rw [q] at e
      exact lookup_map h1 (fun i z hz => h2 (i + 1) z hz) e
theorem exc_at {m : Mem} {d : D} {v : V} {e : Exn} (s : Sim K mg W H m) (r : Rep K W H d v) (h : excOf m d = some e) : ∃ a C o, v = .ref a ∧ mg e.cls = some C ∧ H a = some (ExH C o a) ∧ XFs K W H e.fs o := by
  cases d with
  | ref i =>
    obtain ⟨a, rfl, e2⟩ := r.ref'
    simp only [excOf] at h
    cases hm : m[i]? with
    | none => rw [hm] at h; cases h
    | some c =>
      rw [hm] at h
      have q := s.cell i a c e2 hm
      cases c with
      | exc c fs =>
        cases h
        obtain ⟨C, o, q1, q2, q3⟩ := q
        exact ⟨a, C, o, rfl, q1, q2, q3⟩
      | _ => cases h
  | _ => cases h
end
section
variable {X : Cx} {E : XK} {e : Expr} {c : EM} {pos p p2 pt : Pos} {f : Str}
theorem me_xf {cs : List Str} (hx : ∀ x, cs.contains x = true → XFld X.K X.mg x f) (he : MEx X E e c) (hb : attributeBase e f X.env (eval e X.env) = eval e X.env := by rfl) : MEx X E (.Attribute e f pos) (mXf cs f c) := by
  refine ⟨fun pins s σ H Q I h => ?_⟩
  obtain ⟨W, η, m, sm, n, p⟩ := h
  refine attr_of hb (thn (he.run pins s σ H _ I ⟨W, η, m, sm, n, Post.bind (Rl := Rep X.K) p⟩) fun u s1 ⟨v, H1, I1, rx, W1, d, m1, e1, s1', r1, p1⟩ => ?_)
  cases hex : excOf m1 d with
  | none => rw [hex] at p1; exact p1.elim
  | some ee =>
    rw [hex] at p1
    dsimp only at p1
    split at p1
    · rename_i hc
      cases hl : ee.fs.lookup f with
      | none => rw [hl] at p1; exact p1.elim
      | some dv =>
        rw [hl] at p1
        obtain ⟨a, C', o, rfl, q1, q2, q3⟩ := exc_at s1' r1 hex
        obtain ⟨C, g1, T, hno⟩ := hx _ hc
        rw [q1] at g1
        cases g1
        obtain rfl : u = Value.ref a := rx
        obtain ⟨oe, vs, ha, hz, hd⟩ := exH_at I1.hok q2
        rcases q3 with ⟨z, _⟩ | ⟨dd, gs, rfl, ⟨hdd, _, _⟩, hn, hr⟩
        · rw [z] at hl; cases hl
        · obtain ⟨v', hv', rv'⟩ := lookup_map (R := fun d v => Rep X.K W1 H1 d v) hn (fun i x hx => hr.get hx) hl
          have hxd : ObjOk X.prog X.w H1 s1.heap dd (.xd gs) := I1.hok dd _ hdd
          obtain ⟨mA, hns, hrl⟩ := hxd
          obtain ⟨od, ho, hlk⟩ := lookIn_ns hns
          obtain ⟨u', hu, ru⟩ := RelO.some_of (v := v') (o := mA f) (by rw [← hv']; exact hrl f)
          have J : PySem.W.InstAt s1.heap a oe C (some od) := ⟨ha, hz.1, by unfold PySem.W.notCls; rw [hd] <;> rfl, by rw [hz.2]; exact ho⟩
          exact HandSPX.exc_get I1.kIn J T.ga T.gg T.exC (PySem.W.findObj_own T.hdC hno rfl (by rw [hlk, hu])) (handed_of ru) ⟨v', H1, I1.tok _, ru, p1.now s1' rv'⟩
    · exact p1.elim
/-! ### isinstance -/
theorem all_nil' {P : Str → Prop} : ∀ x : Str, ([] : List Str).contains x = true → P x := fun _ h => by cases h
theorem all_cons' {P : Str → Prop} {y : Str} {ys : List Str} (h : P y) (r : ∀ x, ys.contains x = true → P x) : ∀ x : Str, (y :: ys).contains x = true → P x := fun x e => by
  rw [List.contains_cons] at e
  cases q : (x == y) with
  | true => rw [beq_iff_eq.mp q]; exact h
  | false => rw [q] at e; exact r x e
theorem lookup_in : ∀ {tb : List (Str × Bool)} {x : Str} {b : Bool}, tb.lookup x = some b → (tb.map (·.1)).contains x = true
  | [], x, b, h => by cases h
  | (y, c) :: tb, x, b, h => by
    rw [List.lookup_cons] at h
    rw [List.map_cons, List.contains_cons]
    cases q : (x == y) with
    | true => rfl
    | false => rw [q] at h; exact lookup_in h
def TblI (K : PySem.W.Frag) (mg : Str → Option Value) (y : Str) (tb : List (Str × Bool)) : Prop := ∀ x b, tb.lookup x = some b → IsK K mg x y b
theorem tblI_nil {K : PySem.W.Frag} {mg : Str → Option Value} {y : Str} : TblI K mg y [] := fun _ _ h => by cases h
theorem tblI_cons {K : PySem.W.Frag} {mg : Str → Option Value} {y : Str} {x : Str} {b : Bool} {tb : List (Str × Bool)} (h : IsK K mg x y b) (r : TblI K mg y tb) : TblI K mg y ((x, b) :: tb) := fun z c e => by
  rw [List.lookup_cons] at e
  split at e
  · rename_i q
    cases e
    rw [beq_iff_eq.mp q]
    exact h
  · exact r z c e
def mIsE (tb : List (Str × Bool)) (c : EM) : EM := fun η m => (c η m).bind fun x m1 => match excOf m1 x with
  | some e => (match tb.lookup e.cls with
    | some b => .ok (.bl b) m1
    | none => .stk)
  | none => .stk
theorem kitx {K : PySem.W.Frag} {a C : Addr} {oe : Obj} {od : Option Obj} (k : XKl K C) : PySem.W.KitX K (.ref a) (.ref C) (fun h => PySem.W.InstAt h a oe C od) := PySem.W.kitx_exc k.cl k.ga k.gg k.sub k.ca k.cn k.ct k.cm
theorem inst_of {H : Hp} {s : Shared} {pins : List (Addr × Obj)} {σ : SL} {a C : Addr} {o : Option Addr} {W : Wd} {fs : List (Str × D)} (I : Inv X pins σ H s) (h : H a = some (ExH (.ref C) o a)) (hf : XFs X.K W H fs o) : ∃ oe od, PySem.W.InstAt s.heap a oe C od := by
  obtain ⟨oe, vs, ha, hz, hd⟩ := exH_at I.hok h
  rcases hf with ⟨_, rfl⟩ | ⟨dd, gs, rfl, ⟨hdd, _, _⟩, _, _⟩
  · exact ⟨oe, none, ha, hz.1, by unfold PySem.W.notCls; rw [hd] <;> rfl, by rw [hz.2]; trivial⟩
  · have hxd : ObjOk X.prog X.w H s.heap dd (.xd gs) := I.hok dd _ hdd
    obtain ⟨mA, hns, hrl⟩ := hxd
    obtain ⟨od, ho, hlk⟩ := lookIn_ns hns
    exact ⟨oe, some od, ha, hz.1, by unfold PySem.W.notCls; rw [hd] <;> rfl, by rw [hz.2]; exact ho⟩
/-- isinstance(e, c) of an exception that is tracked -/
def rIsX (K : PySem.W.Frag) : List V → Hp → VK → Prop := fun xs H Q => ∃ (a C : Addr) (o : Option Addr) (W : Wd) (fs : List (Str × D)) (c : V) (cv : Value) (b : Bool), xs = [.ref a, c] ∧ H a = some (ExH (.ref C) o a) ∧ XFs K W H fs o ∧ XKl K C ∧ (∀ u, RelV c u → u = cv) ∧ PySem.W.kitOne K (.ref C) cv = some b ∧ Q (.bl b) H
theorem call_isX : CallR X (.builtin "isinstance") (rIsX X.K) := by
  intro pins s σ H xs us Q I r h
  obtain ⟨a, C, o, W, fs, c, cv, b, rfl, ha, hf, k, hcv, e, q⟩ := h
  cases r with
  | cons rx rr =>
    cases rr with
    | cons rt rr =>
      cases rr
      cases rx
      have ec := hcv _ rt
      subst ec
      obtain ⟨oe, od, J⟩ := inst_of I ha hf
      exact PySem.W.kia_one (kitx k) I.kIn J e (fun z => nomatch z) fun tk => ⟨.bl b, H, I.kept (t' := tk) fun _ _ z => z, rfl, q⟩
/-- isinstance(e, (c, ..)) -/
def rIsXT (K : PySem.W.Frag) : List V → Hp → VK → Prop := fun xs H Q => ∃ (a C t : Addr) (o : Option Addr) (W : Wd) (fs : List (Str × D)) (cs : List V) (cvs : List Value) (b : Bool), xs = [.ref a, .ref t] ∧ H a = some (ExH (.ref C) o a) ∧ XFs K W H fs o ∧ XKl K C ∧
  H t = some (.tup cs) ∧ (∀ us, Vals cs us → us = cvs) ∧ PySem.W.kitAny K (.ref C) cvs = some b ∧ Q (.bl b) H
theorem call_isXT : CallR X (.builtin "isinstance") (rIsXT X.K) := by
  intro pins s σ H xs us Q I r h
  obtain ⟨a, C, t, o, W, fs, cs, cvs, b, rfl, ha, hf, k, ht, hcv, e, q⟩ := h
  cases r with
  | cons rx rr =>
    cases rr with
    | cons rt rr =>
      cases rr
      cases rx
      cases rt
      obtain ⟨oe, od, J⟩ := inst_of I ha hf
      obtain ⟨_, its, rv, o2, h1, h2, n, h3⟩ := (show ObjOk X.prog X.w H s.heap t (.tup cs) from I.hok t _ ht)
      have e3 := hcv _ rv
      subst e3
      obtain ⟨oc, od2, dt, sl⟩ := o2
      simp only at h2 h3
      subst h2 h3
      exact PySem.W.kia_tup (kitx k) I.kIn J h1 e (fun z => nomatch z) fun tk => ⟨.bl b, H, I.tok tk, rfl, q⟩
/-- a class in an isinstance: its name may be read, its value is one -/
structure ClsE (X : Cx) (y : Str) (v : V) (D : Value) : Prop where
  pe : ∀ p : Pos, PE X (.Name y p) (tC v)
  rel : ∀ u, RelV v u → u = D
  cl : ClV X.mg y D
theorem clsE_own {y : Str} {D : Addr} (hg : Gl X y) (hm : X.mg y = some (.ref D)) (hd : (y == ("__debug__" : Str)) = false := by decide) : ClsE X y (.ref D) (.ref D) := ⟨fun p => pe_glob hg hm rfl hd, fun u r => r, .inl hm⟩
theorem clsE_blt {y : Str} {T : String} (hg : Gl X y) (hm : X.mg y = none) (hv : bootBuiltins y = some (.type T)) (hn : y ≠ "__name__" := by decide) (hd : (y == ("__debug__" : Str)) = false := by decide) : ClsE X y (.ty T) (.type T) :=
  ⟨fun p => pe_bltn hg hm hv rfl hn hd, fun u r => r, .inr ⟨hm, hv, hn⟩⟩
theorem me_isE {y : Str} {v : V} {D : Value} {tb : List (Str × Bool)} (hm : X.mg "isinstance" = none) (hg : Gl X "isinstance") (Y : ClsE X y v D) (hx : ∀ x, (tb.map (·.1)).contains x = true → XIn X.K X.mg x) (ht : TblI X.K X.mg y tb) (he : MEx X E e c)
    (hs1 : starEach [e, .Name y p2] X.env = (false, eval e X.env) :: starEach [.Name y p2] X.env := by rfl) (hs2 : starEach [.Name y p2] X.env = (false, eval (.Name y p2) X.env) :: starEach [] X.env := by rfl)
    (hpl : (backTo pos (starEach [.Name y p2] X.env)).any (·.1) = false := by rfl) : MEx X E (.Call (.Name "isinstance" p) [e, .Name y p2] [] pos) (mIsE tb c) := by
  refine (pe_callB call_isX hg hm boot_isinstance (pa_cons he (pa_cons (Y.pe p2) pa_nil hs2) hs1) (by decide) (by decide) hs1 hpl).imp fun σ H Q ⟨W, η, m, s, n, p⟩ => ?_
  refine ⟨W, η, m, s, n, (Post.bind (Rl := Rep X.K) p).imp fun x H1 ⟨W1, d, m1, e1, s1, r1, p1⟩ => ?_⟩
  cases hex : excOf m1 d with
  | none => rw [hex] at p1; exact p1.elim
  | some ee =>
    rw [hex] at p1
    dsimp only at p1
    cases hl : tb.lookup ee.cls with
    | none => rw [hl] at p1; exact p1.elim
    | some b =>
      rw [hl] at p1
      obtain ⟨a, C', o, rfl, q1, q2, q3⟩ := exc_at s1 r1 hex
      obtain ⟨C, g1, k⟩ := hx _ (lookup_in hl)
      rw [q1] at g1
      cases g1
      exact ⟨a, C, o, W1, ee.fs, v, D, b, rfl, q2, q3, k, Y.rel, ht _ _ hl _ _ q1 Y.cl, p1.now s1 rep_bl⟩
/-- the names of a tuple of classes -/
inductive ClsT (X : Cx) : List Expr → List Str → List V → List Value → Prop
  | nil : ClsT X [] [] [] []
  | cons {y : Str} {v : V} {D : Value} {p : Pos} {es : List Expr} {ys : List Str} {vs : List V} {Ds : List Value} (h : ClsE X y v D) (r : ClsT X es ys vs Ds) (hs : starEach (.Name y p :: es) X.env = (false, eval (.Name y p) X.env) :: starEach es X.env) :
      ClsT X (.Name y p :: es) (y :: ys) (v :: vs) (D :: Ds)
theorem ClsT.pa {es : List Expr} {ys : List Str} {vs : List V} {Ds : List Value} (h : ClsT X es ys vs Ds) : PA X es (fun σ H Q => Q vs H) := by
  induction h with
  | nil => exact pa_nil
  | cons h r hs ih => exact pa_cons (h.pe _) ih hs
theorem ClsT.rel {es : List Expr} {ys : List Str} {vs : List V} {Ds : List Value} (h : ClsT X es ys vs Ds) : ∀ us, Vals vs us → us = Ds := by
  induction h with
  | nil => intro us r; cases r; rfl
  | cons h r hs ih =>
    intro us q
    cases q with
    | cons q1 q2 => rw [h.rel _ q1, ih _ q2]
theorem ClsT.cl {es : List Expr} {ys : List Str} {vs : List V} {Ds : List Value} (h : ClsT X es ys vs Ds) : ClVs X.mg ys Ds := by
  induction h with
  | nil => exact .nil
  | cons h r hs ih => exact .cons h.cl ih
theorem ClsT.len {es : List Expr} {ys : List Str} {vs : List V} {Ds : List Value} (h : ClsT X es ys vs Ds) : vs.length = ys.length := by
  induction h with
  | nil => rfl
  | cons h r hs ih => simp [ih]
theorem me_isET {es : List Expr} {ys : List Str} {vs : List V} {Ds : List Value} {tb : List (Str × Bool)} {kt : Nat} (hm : X.mg "isinstance" = none) (hg : Gl X "isinstance") (Y : ClsT X es ys vs Ds) (hl : ys.length ≤ 100) (hx : ∀ x, (tb.map (·.1)).contains x = true → XIn X.K X.mg x) (ht : TblA X.K X.mg ys tb) (he : MEx X E e c)
    (hs1 : starEach [e, .Tuple es kt pt] X.env = (false, eval e X.env) :: starEach [.Tuple es kt pt] X.env := by rfl) (hs2 : starEach [.Tuple es kt pt] X.env = (false, eval (.Tuple es kt pt) X.env) :: starEach [] X.env := by rfl)
    (hpl : (backTo pos (starEach [.Tuple es kt pt] X.env)).any (·.1) = false := by rfl) : MEx X E (.Call (.Name "isinstance" p) [e, .Tuple es kt pt] [] pos) (mIsE tb c) := by
  refine (pe_callB call_isXT hg hm boot_isinstance (pa_cons he (pa_cons (pe_tup Y.pa) pa_nil hs2) hs1) (by decide) (by decide) hs1 hpl).imp fun σ H Q ⟨W, η, m, s, n, p⟩ => ?_
  refine ⟨W, η, m, s, n, (Post.bind (Rl := Rep X.K) p).imp fun x H1 ⟨W1, d, m1, e1, s1, r1, p1⟩ => ?_⟩
  refine ⟨by rw [Y.len, sizeLine_eq]; omega, fun tp hp => ?_⟩
  have ex : Ext W1 H1 W1 (upd H1 tp (.tup vs)) := Ext.fresh hp
  have sx := s1.fresh (o := .tup vs) hp
  cases hex : excOf m1 d with
  | none => rw [hex] at p1; exact p1.elim
  | some ee =>
    rw [hex] at p1
    dsimp only at p1
    cases hl : tb.lookup ee.cls with
    | none => rw [hl] at p1; exact p1.elim
    | some b =>
      rw [hl] at p1
      obtain ⟨a, C', o, rfl, q1, q2, q3⟩ := exc_at sx (r1.ext ex) hex
      obtain ⟨C, g1, k⟩ := hx _ (lookup_in hl)
      rw [q1] at g1
      cases g1
      exact ⟨a, C, tp, o, W1, ee.fs, vs, Ds, b, rfl, q2, q3, k, upd_same, Y.rel, (ht _ _ hl).kit q1 Y.cl, (Post.ext ex p1).now sx rep_bl⟩
end
/-! ### what the top tells -/
section
variable {K : PySem.W.Frag} {mg : Str → Option Value} {P : Program} {w : World} {base : Heap}
theorem xfld_of {x f : Str} {C : Addr} (h : mg x = some (.ref C)) (k : XKl K C) (hno : PySem.W.findIn K (.ref C) f = some none) : XFld K mg x f := ⟨C, h, ⟨k.ga, k.gg, k.sub, k.hd⟩, hno⟩
end
end Mir

/-! list(reversed(a list)), list(a text) -/
namespace Mir
open PySem PySem.Spec PyProof.Rows L2 RT
section
variable {prog : Program} {w : World} {A : Around} {E : Value → Shared → Prop} {s : Shared}
end
section
variable {X : Cx}
end
section
variable {X : Cx} {E : XK} {pos : Pos}
/-! ### list(a text) -/
end
/-! ### str(an int or a text) -/
section
variable {X : Cx} {E : XK}
end
/-! ### isinstance's classes, told by what the kit answers -/
section
variable {K : PySem.W.Frag}
theorem kit_self {C : Addr} : PySem.W.kitOne K (.ref C) (.ref C) = some true := by
  unfold PySem.W.kitOne
  rw [if_pos (by simp)]
theorem kit_own {C D : Addr} {b : Bool} (h1 : PySem.W.isClsIn K D = true) (h2 : PySem.W.typeIn K (.ref D) = some (.type "type")) (h3 : PySem.W.subIn K (.ref C) (.ref C) = some true) (h4 : PySem.W.subIn K (.ref C) (.ref D) = some b) : PySem.W.kitOne K (.ref C) (.ref D) = some b := by
  by_cases e : C = D
  · subst e
    rw [h3] at h4
    cases h4
    exact kit_self
  · unfold PySem.W.kitOne
    rw [if_neg (by simpa using e)]
    have e1 : ((PySem.W.clsIn K D).isSome && PySem.W.typeIn K (.ref D) == some (.type "type")) = true := by
      have h1' : (PySem.W.clsIn K D).isSome = true := h1
      rw [h1', h2] <;> rfl
    show (if ((PySem.W.clsIn K D).isSome && PySem.W.typeIn K (.ref D) == some (.type "type")) = true then PySem.W.subIn K (.ref C) (.ref D) else none) = some b
    rw [if_pos e1]
    exact h4
theorem kit_blt {C : Addr} {T : String} {b : Bool} (h1 : PySem.W.kitMeta T = true) (h4 : PySem.W.subIn K (.ref C) (.type T) = some b) : PySem.W.kitOne K (.ref C) (.type T) = some b := by
  unfold PySem.W.kitOne
  rw [if_neg (by simp)]
  show (if PySem.W.kitMeta T = true then PySem.W.subIn K (.ref C) (.type T) else none) = some b
  rw [if_pos h1]
  exact h4
end
end Mir

/-! exceptions: own classes right under a built-in class other than ValueError -/
namespace Mir
open PySem PySem.Spec PyProof.Rows L2
/-- a built-in class of exceptions: how it is made, its row of bases -/
structure RootF (B nw ini : String) (tl : List Value) : Prop where
  base : ExcBaseFacts B nw ini tl
  pass : ∀ self, refuseLoop self "__setattr__" tl = pure ()
  obj : tl.contains (.type "object") = true
  ty : typeOf (.type B) = pure (.type "type")
  stub : Manifest.isStub B = false
  hand : PySem.W.handedIn (.builtin ini) = true
theorem root_lookup : RootF "LookupError" "LookupError.__new__" "LookupError.__init__" [.type "LookupError", .type "Exception", .type "BaseException", .type "object"] :=
  ⟨PySem.F.excBase_LookupError, fun self => by kernel_rfl, by decide +kernel, by kernel_rfl, by decide +kernel, by decide +kernel⟩
theorem root_overflow : RootF "OverflowError" "OverflowError.__new__" "OverflowError.__init__" [.type "OverflowError", .type "ArithmeticError", .type "Exception", .type "BaseException", .type "object"] :=
  ⟨PySem.F.excBase_OverflowError, fun self => by kernel_rfl, by decide +kernel, by kernel_rfl, by decide +kernel, by decide +kernel⟩
/-- own classes ahead of the built-in row -/
def OwnR (tl l : List Value) : Prop := ∃ cs : List Addr, l = cs.map Value.ref ++ tl
section
variable {B nw ini : String} {tl l : List Value}
theorem OwnR.pass (F : RootF B nw ini tl) (self : Value) (h : OwnR tl l) : refuseLoop self "__setattr__" l = pure () := by
  obtain ⟨cs, rfl⟩ := h
  induction cs with
  | nil => exact F.pass self
  | cons c cs ih =>
    show refuseLoop self "__setattr__" (.ref c :: (cs.map Value.ref ++ tl)) = _
    rw [refuseLoop_ref]
    exact ih
theorem OwnR.has (h : OwnR tl l) (Y : String) : l.contains (.type Y) = tl.contains (.type Y) := by
  obtain ⟨cs, rfl⟩ := h
  induction cs with
  | nil => rfl
  | cons c cs ih =>
    show List.contains (.ref c :: (cs.map Value.ref ++ tl)) (.type Y) = _
    rw [List.contains_cons, ih]
    rfl
theorem OwnR.ne (F : RootF B nw ini tl) (h : OwnR tl l) : l.isEmpty = false := by
  obtain ⟨cs, rfl⟩ := h
  cases cs with
  | nil =>
    cases tl with
    | nil => have := F.obj; cases this
    | cons _ _ => rfl
  | cons _ _ => rfl
theorem OwnR.cons {C : Addr} (h : OwnR tl l) : OwnR tl (.ref C :: l) := by
  obtain ⟨cs, rfl⟩ := h
  exact ⟨C :: cs, rfl⟩
end
/-! ### a field is stored -/
section
open Builtin Builtin.ObjectAttr
variable {prog : Program} {w : World} {A : Around} {R : Result → Shared → Prop} {G : Heap} {gs : Array GenState} {dr : Drawn} {tk0 : Nat} {os : OsState} {B nw ini : String} {tl : List Value}
variable {K : PySem.W.Frag} {fld : Str} {tk : Tok} {val : Value} {x C dx : Addr} {fv : Array Value} {cd : ClassData} {m0 : Str → Option Value} {nl : List Str}
/-- object.__setattr__ of such an exception comes to the store in its own dict -/
theorem osa_root (F : RootF B nw ini tl) (I : K.In G) {od : Option Addr} {oo : Option Obj} (J : PySem.W.InstAt G x { cls := .ref C, dict := od, data := .fields fv } C oo) (hcd : PySem.W.clsIn K C = some cd) (hm : OwnR tl cd.mro)
    (ha : PySem.W.findIn K (.ref C) fld = some none)
    (h : wpAny (model prog w) (A.under (.builtin "object.__setattr__" ⟨[.ref x, .str fld tk, val], []⟩)) (storeInOwnDict (.ref x) (.ref C) (.str fld tk) fld val false) (fun fin s' => match fin with
      | .done f => R (.ok f) s'
      | .again c' => c'.quiet = true ∧ codeAny (model prog w) A c' R s') (fun e s' => R (.error e) s') ⟨G, gs, dr, tk0, os⟩) :
    codeAny (model prog w) A (.call (.builtin "object.__setattr__") ⟨[.ref x, .str fld tk, val], []⟩) R ⟨G, gs, dr, tk0, os⟩ := by
  have S := PySem.F.store_object
  have hO : cd.mro.contains (.type "object") = true := (hm.has "object").trans F.obj
  have hE := hm.ne F
  have lk : PySem.W.Looks (model prog w) G (isInstance (.ref x) (.type "object")) true :=
    J.type.andThen (PySem.W.looks_mroIn I (by unfold PySem.W.mroIn; rw [hcd, Option.bind_some, hO, if_neg (by rw [hE]; decide)]))
  refine codeAny_call_builtin S.slot.plain S.entry ?_
  refine @PySem.W.check_slot (model prog w) _ _ ⟨G, gs, dr, tk0, os⟩ "object.__setattr__" "object" "__setattr__" (.ref x) [.str fld tk, val] [] _ S.kind S.split lk (S.args (.ref x) (.str fld tk) val) ?_
  have m1 : PySem.W.Looks (model prog w) G (mroOf (.ref C)) cd.mro := (PySem.W.looks_clsIn I hcd).andThen .now
  have m2 : PySem.W.Looks (model prog w) G (storeTaker? none) none := .now
  rw [PySem.W.osa_eq, refuse_eq]
  refine wpAny_bind ?_
  refine wpAny_bind (J.type.at ?_)
  refine wpAny_bind (m1.at ?_)
  rw [hm.pass F]
  refine wpAny_pure ?_
  refine wpAny_bind (J.type.at ?_)
  refine wpAny_bind ((PySem.W.looks_findIn I ha).at ?_)
  exact wpAny_bind (m2.at h)
/-- the first field -/
theorem osa_first (F : RootF B nw ini tl) (I : K.In G) (hx : G.get? x = some { cls := .ref C, data := .fields fv }) (hcd : PySem.W.clsIn K C = some cd) (hm : OwnR tl cd.mro) (hh : cd.hasDict = true) (ha : PySem.W.findIn K (.ref C) fld = some none)
    (hq : ∀ G' tk' dx, (∀ b o, b ≠ x → G.get? b = some o → G'.get? b = some o) → G.objs.size ≤ dx → dx ≠ x → G'.get? x = some { cls := .ref C, dict := some dx, data := .fields fv } →
      G'.Ns1 dx (fun y => if y = fld then some val else none) → R (.ok (.ret .none)) ⟨G', gs, dr, tk', os⟩) :
    codeAny (model prog w) A (.call (.builtin "object.__setattr__") ⟨[.ref x, .str fld tk, val], []⟩) R ⟨G, gs, dr, tk0, os⟩ := by
  refine osa_root F I (od := none) (oo := none) ⟨hx, rfl, rfl, trivial⟩ hcd hm ha ?_
  have hxs : x ≠ G.objs.size := Nat.ne_of_lt (Heap.lt_size hx)
  have hl : PySem.W.Looks (model prog w) G (classData C) cd := PySem.W.looks_clsIn I hcd
  cases cd with
  | mk c1 c2 c3 c4 c5 c6 c7 c8 c9 c10 c11 =>
    have hh' : c6 = true := hh
    cases hh'
    unfold storeInOwnDict ownDictForStores
    repeat (first | with_reducible refine PySem.HandSPX.store_in_new ?_ ?_ | with_reducible refine wpAny_loadPart_at hx ?_ | with_reducible refine hl.at ?_ | wp_step)
    · exact ⟨_, #[], _, (Heap.get?_update_ne _ _ _ _ hxs.symm).trans (Heap.get?_push_at rfl rfl), rfl, fun e he => absurd he (by simp), fun _ => rfl⟩
    · intro G' tk' hn hs
      have hp : (G.push { cls := .type "dict", data := .dict #[] }).get? x = some { cls := .ref C, data := .fields fv } := Heap.get?_push_of_some _ hx
      refine hq G' tk' G.objs.size (fun b o hb ho => ?_) (Nat.le_refl _) hxs.symm ((hs.2 x hxs).trans (Heap.get?_update_self _ hp rfl)) hn
      have hbs : b ≠ G.objs.size := Nat.ne_of_lt (Heap.lt_size ho)
      exact (hs.2 b hbs).trans ((Heap.get?_update_ne _ _ _ _ hb).trans (Heap.get?_push_of_some _ ho))
end
/-! ### the class as the written part tells it -/
structure OexR (K : PySem.W.Frag) (C : Addr) (nw : String) (tl : List Value) : Prop where
  cls : ∃ nm q N bs bm sn sub ab col dd k0 k1 k2 k3 k5, K.lookup C = some (excClassObj nm q C N bs bm true sn sub ab col dd k0 k1 k2 k3 k5 nw) ∧ OwnR tl bm
  sa : PySem.W.findIn K (.ref C) "__setattr__" = some (some (.builtin "object.__setattr__"))
  exC : PySem.W.subIn K (.ref C) (.type "BaseException") = some true
  tyC : PySem.W.typeIn K (.ref C) = some (.type "type")
  kC : PySem.W.keepIn K (.ref C) = true
section
variable {X : Cx} {pins : List (Addr × Obj)} {σ : SL} {H : Hp} {s : Shared} {a C : Addr} {fld : Str} {y : V} {u : Value} {A : Around} {B nw ini : String} {tl : List Value}
/-- self.f = y, the first one -/
theorem ostR_new {Q : Unit → Shared → Prop} {E : Value → Shared → Prop} (F : RootF B nw ini tl) (T : OexR X.K C nw tl) (I : Inv X pins σ H s) (e : H a = some (exo a C none)) (hno : PySem.W.findIn X.K (.ref C) fld = some none) (ry : RelV y u)
    (h : ∀ dx s', H dx = none → dx ≠ a → Inv X pins σ (upd (upd H dx (exd dx [(fld, y)])) a (exo a C (some dx))) s' → Q () s') : wpAny (model X.prog X.w) A (setAttr (.ref a) fld u) Q E s := by
  obtain ⟨c1, c2, c4, c5, bm, c7, c8, c9, c10, c11, k0, k1, k2, k3, k5, hC, hbm⟩ := T.cls
  obtain ⟨cd, hcl, hm, hd⟩ : ∃ cd, PySem.W.clsIn X.K C = some cd ∧ OwnR tl cd.mro ∧ cd.hasDict = true :=
    ⟨{ name := c1, bases := c5, mro := .ref C :: bm, ns := c4, qualname := c2, hasDict := true, slotNames := c7, subclasses := c8, abstract := c9, collection := c10, hasDel := false }, by unfold PySem.W.clsIn; rw [hC] <;> rfl, hbm.cons, rfl⟩
  obtain ⟨t1, ho⟩ := exo_at I.hok e
  cases s with
  | mk G gs dr tk0 os =>
    refine PySem.W.set_plain I.kIn (ox := { cls := .ref C, dict := none, data := .fields #[.ref t1, .none, .none, .none, .bool false, .none] }) (od := none) ⟨ho, rfl, rfl, trivial⟩ T.sa ?_
    refine osa_first F I.kIn ho hcl hm hd hno fun G' tk' dx k dn dne hx hn => ?_
    have hnd : H dx = none := I.hok.fresh dn
    have old : ∀ {b : Addr} {o : Obj}, G.get? b = some o → b ≠ dx := fun {b o} q => Nat.ne_of_lt (Nat.lt_of_lt_of_le (Heap.lt_size q) dn)
    have no : ∀ {b : Addr}, H b = none → b ≠ a := fun {b} n z => by subst z; rw [e] at n; cases n
    refine h dx _ hnd dne (I.un (t' := tk') {
      keep := fun b o q n _ _ => k b o (no n) q
      slot := fun b o q n _ _ => ⟨o.slots, k b o (no n) q⟩
      free := fun b o q n _ => by rw [upd_ne (no n), upd_ne (old q)]; exact n
      there := fun b o q _ => (Classical.em (b = a)).elim (fun hb => by subst hb; exact ⟨_, hx⟩) fun hb => ⟨o, k b o hb q⟩
      tups := fun b xs q => by rw [upd_ne (at_ne e q exo_tup), upd_ne (ne_of_none q hnd)]; exact q
      frzs := fun b o v q => by rw [upd_ne (at_ne e q exo_frz), upd_ne (ne_of_none q hnd)]; exact q
      tbls := fun b ps q => ⟨#[], by rw [upd_ne (at_ne e q exo_tbl), upd_ne (ne_of_none q hnd), q]; simp⟩ } fun b o q => ?_)
    by_cases hb : b = a
    · subst hb
      rw [upd_same] at q
      cases q
      exact exo_ok hx
    · rw [upd_ne hb] at q
      by_cases hd : b = dx
      · subst hd
        rw [upd_same] at q
        cases q
        exact exd_ok hn (relO_put (fs := []) ry fun _ => True.intro)
      · rw [upd_ne hd] at q
        refine (I.hok b o q).stay (fun c v hc z => k c v ?_ z) (fun c hc => ?_) (fun c xs hc => ?_)
        · rcases hc with hc | hc
          · rw [hc]; exact hb
          · exact at_ne e hc exo_own
        · rw [upd_ne (at_ne e hc exo_own), upd_ne (ne_of_none hc hnd)]; exact hc
        · rw [upd_ne (at_ne e hc exo_tup), upd_ne (ne_of_none hc hnd)]; exact hc
/-- Base.__init__(self, ..) -/
theorem oinitR_ok {us : List Value} {Q : Value → Shared → Prop} {E : Value → Shared → Prop} (F : RootF B nw ini tl) (T : OexR X.K C nw tl) (I : Inv X pins σ H s) (e : H a = some (exo a C none)) (hl : us.length ≤ sizeLine) (h : ∀ s', Inv X pins σ H s' → Q .none s') :
    wpAny (model X.prog X.w) A (call (.builtin ini) (.ref a :: us)) Q E s := by
  obtain ⟨c1, c2, c4, c5, bm, c7, c8, c9, c10, c11, k0, k1, k2, k3, k5, hC, hbm⟩ := T.cls
  obtain ⟨t1, ho⟩ := exo_at I.hok e
  cases s with
  | mk G gs dr tk0 os =>
    refine wpAny_call (PySem.HandSPX.init_base F.base hbm.has (I.kIn _ _ hC) ho hl fun G' t2 k hx => ?_)
    have J := I.write (t' := tk0) (x := a) (e := a) (o := exo a C none) (by rw [e]; exact True.intro) (.inl rfl) k ⟨_, hx⟩ (exo_ok hx)
    have eq : upd H a (exo a C none) = H := funext fun b => (Classical.em (b = a)).elim (fun hb => by rw [hb, upd_same, e]) fun hb => upd_ne hb
    rw [eq] at J
    exact h _ J
end
/-! ### readings and rules -/
def tVeR (K : PySem.W.Frag) (nw : String) (tl : List Value) (ta : TA) : TE := fun σ H Q => ta σ H fun vs H1 => ∃ (a C : Addr) (ws : List V), vs = .ref a :: ws ∧ ws.length ≤ 1000 ∧ OexR K C nw tl ∧ H1 a = some (exo a C none) ∧ Q .non H1
def tOsR (K : PySem.W.Frag) (nw : String) (tl : List Value) (f : Str) (to te : TE) : TS := fun D σ H => te σ H fun y H1 => to σ H1 fun x H2 => ∃ a C : Addr, x = .ref a ∧ OexR K C nw tl ∧ PySem.W.findIn K (.ref C) f = some none ∧
  H2 a = some (exo a C none) ∧ ∀ dx, H2 dx = none → dx ≠ a → D.nx σ (upd (upd H2 dx (exd dx [(f, y)])) a (exo a C (some dx)))
section
variable {X : Cx} {o e : Expr} {es : List Expr} {to te : TE} {ta : TA} {f x : Str} {p p' p1 p2 pos : Pos} {B nw ini : String} {tl : List Value}
theorem pe_rinit {pl : Sem Bool} (F : RootF B nw ini tl) (hg : Gl X x) (hm : X.mg x = none) (hbt : bootBuiltins x = some (.type B)) (vV : PySem.W.findCls X.K (.type B) (.type "type") "__init__" = some (.val (.builtin ini))) (ha : PA X (e :: es) ta)
    (hn : x ≠ "__name__" := by decide) (hdb : (x == ("__debug__" : Str)) = false := by decide)
    (hc : eval (.Call (.Attribute (.Name x p1) "__init__" p2) (e :: es) [] pos) X.env = (do
      let ov ← eval (.Name x p1) X.env
      standAt p2.atName
      let (f, first) ← holding [ov] (getMethod ov "__init__" pl)
      callWith pos f first (backTo pos (starEach (e :: es) X.env)) (backToKw pos (keywordEach [] X.env))) := by rfl)
    (he : starEach (e :: es) X.env = (false, eval e X.env) :: starEach es X.env := by rfl) (hpl : (backTo pos (starEach es X.env)).any (·.1) = false := by rfl) :
    PE X (.Call (.Attribute (.Name x p1) "__init__" p2) (e :: es) [] pos) (tVeR X.K nw tl ta) := by
  refine ⟨fun pins s σ H Q I h => ?_⟩
  refine PySem.W.methodCall_KW (ld_blt I hg hm hbt ?_ hn hdb) hc
  obtain ⟨m, fr⟩ := I.fr
  refine PySem.W.method_type fr I.ok.mod.kin F.ty F.stub vV F.hand ?_
  show wpAny _ _ (callWith pos (Value.builtin ini) [] (backTo pos (starEach (e :: es) X.env)) []) _ _ _
  refine PyProof.Rows.callWith_method1 (thn (ha.run pos pins _ σ H _ (I.tok _) h) fun us s1 ⟨vs, H1, I1, r1, a, C, ws, ev, hl, T, ea, q⟩ => ?_) he hpl
  subst ev
  cases r1 with
  | @cons _ u0 _ ur ra rw' =>
    obtain rfl : u0 = Value.ref a := ra
    have hlen : ur.length ≤ sizeLine := by
      rw [← Paired.length rw', sizeLine_eq]
      omega
    exact oinitR_ok F T I1 ea hlen fun s' J => ⟨.non, H1, J, rfl, q⟩
theorem ps_ostR (F : RootF B nw ini tl) (ho : PE X o to) (he : PE X e te) (hs : swapsWith e (some (.Attribute o f p')) pos.line X.env = pure false := by rfl) : PS X (.Assign [.Attribute o f p'] e pos) (tOsR X.K nw tl f to te) := by
  refine ⟨fun pins s σ H D I h => ?_⟩
  refine plainObj_wpAny_Assign_Attribute (thn (he.run pins s σ H _ I h) fun v s1 ⟨y, H1, I1, r1, q1⟩ => ?_) hs
  refine thn (ho.run pins s1 σ H1 _ I1 q1) fun u s2 ⟨x, H2, I2, r2, a, C, ex, T, hno, ea, q⟩ => ?_
  subst ex
  obtain rfl : u = Value.ref a := r2
  exact ostR_new F T I2 ea hno r1 fun dx s' n ne J => ⟨σ, _, J, q dx n ne⟩
end
/-! ### __init__ of one field -/
def spR1 (K : PySem.W.Frag) (nw : String) (tl : List Value) (f1 : Str) : Sp := fun vs H Q _ => ∃ a C y, vs = [.ref a, y] ∧ OexR K C nw tl ∧ PySem.W.findIn K (.ref C) f1 = some none ∧ H a = some (exo a C none) ∧
  ∀ dx, H dx = none → dx ≠ a → Q .non (upd (upd H dx (exd dx [(f1, y)])) a (exo a C (some dx)))
section
variable {P : Program} {w : World} {K : PySem.W.Frag} {mg : Str → Option Value} {base : Heap} {nw : String} {tl : List Value}
theorem initR1_ok {x qual f1 s1 a1 tx : Str} {st : Stmt} {f : Addr} {fd : FuncData} (F : Fun K x qual st f fd) (S : FnScope [s1, a1] [s1, a1] (defScope st))
    (h : ∀ (cdv : Value) (A : Around) (outer : List Env) (s : Shared) (H : Hp) (E : XK), PSs (cxOf CX0 P w K mg base [s1, a1] qual (defScope st) f cdv A outer s H E).nox (defBody st)
      (tSeq (tDrop (tVeR K nw tl (tCons (tVar 0) (tCons (tC (.str tx)) tNil)))) (tSeq (tOsR K nw tl f1 (tVar 0) (tVar 1)) tNext))) : FnOk P w K mg base CX0 (0 + 1) f fd [s1, a1] (spR1 K nw tl f1) := by
  refine F.ok S (fun vs H Q E ⟨a, C, y, e, _⟩ => by rw [e]; rfl) fun cdv A outer s H vs Q E hr q => ⟨_, h cdv A outer s H E, ?_⟩
  obtain ⟨a, C, y, rfl, T, hno, ha, q⟩ := q
  exact ⟨.ref a, rfl, a, C, [.str tx], rfl, by simp, T, ha, y, rfl, .ref a, rfl, a, C, rfl, T, hno, ha, fun dx n1 n2 => q dx n1 n2⟩
end
/-! ### making and raising -/
section
variable {X : Cx} {e : Expr} {es : List Expr} {ta : TA} {p pos : Pos} {B nw ini : String} {tl : List Value}
theorem pmk_oexR {CX : CXT} {x : Str} {C fI : Addr} {k : Nat} {fd : FuncData} {ps : List Str} {sp : Sp} {ds : List Value} {dvs : List V} (F : RootF B nw ini tl) (T : OexR X.K C nw tl) (iC : PySem.W.findIn X.K (.ref C) "__init__" = some (some (.ref fI))) (tI : PySem.W.typeIn X.K (.ref fI) = some (.type "function"))
    (F1 : FnOk X.prog X.w X.K X.mg X.base CX k fI fd ps sp) (hr : Room (k + 1) X.A) (hb : Binds X.K fd ps ds) (hd : Vals dvs ds) (hx : Passes CX X (fun _ _ _ => False)) (hg : Gl X x) (hm : X.mg x = some (.ref C)) (ha : PA X (e :: es) ta)
    (hdb : (x == ("__debug__" : Str)) = false := by decide) (he : starEach (e :: es) X.env = (false, eval e X.env) :: starEach es X.env := by rfl) (hpl : (backTo pos (starEach es X.env)).any (·.1) = false := by rfl) :
    PMk X (.Call (.Name x p) (e :: es) [] pos) (tMkO C sp dvs ta) := by
  intro pins s σ H Q I h
  obtain ⟨nm, q, N, bs, bm, sn, sub, ab, col, dd, k0, k1, k2, k3, k5, hC, hbm⟩ := T.cls
  refine wpAny_Call_Name_kw (ld_glob I hg hm ?_ hdb)
  refine PySem.W.callWith_K (h₀ := X.base) I.ok.mod.kin T.kC (thn (ha.run pos pins s σ H _ I h) fun us s1 ⟨vs, H1, I1, r1, hz, q1⟩ => ⟨I1.kIn, ?_⟩) he hpl
  show wpAny _ _ (call (.ref C) us) _ _ _
  obtain ⟨hp, g, dr, tk, os⟩ := s1
  have hsz : hp.objs.size ≤ hp.objs.size + 1 := Nat.le_succ _
  have hn : H1 (hp.objs.size + 1) = none := I1.hok.fresh hsz
  have hq := q1 (hp.objs.size + 1) hn
  have kk : ∀ b o, hp.get? b = some o → ((hp.push (PySem.W.kdv_tup us)).push (PySem.HandSPX.excO C hp.objs.size)).get? b = some o := fun b o e => Heap.get?_push_of_some _ (Heap.get?_push_of_some _ e)
  have hget : ((hp.push (PySem.W.kdv_tup us)).push (PySem.HandSPX.excO C hp.objs.size)).get? (hp.objs.size + 1) = some (PySem.HandSPX.excO C hp.objs.size) := by heap_get
  have I2 : Inv X pins σ (upd H1 (hp.objs.size + 1) (exo (hp.objs.size + 1) C none)) ⟨(hp.push (PySem.W.kdv_tup us)).push (PySem.HandSPX.excO C hp.objs.size), g, dr, tk, os⟩ :=
    I1.laid (t' := tk) (a := hp.objs.size + 1) (o := exo (hp.objs.size + 1) C none) (h' := (hp.push (PySem.W.kdv_tup us)).push (PySem.HandSPX.excO C hp.objs.size)) kk hsz (exo_ok hget)
  have r2 : Vals (V.ref (hp.objs.size + 1) :: (vs ++ dvs)) (Value.ref (hp.objs.size + 1) :: (us ++ ds)) := .cons rfl (r1.append hd)
  have hl : (Value.ref (hp.objs.size + 1) :: us ++ ds).length = ps.length := by
    have e := r2.length
    rw [F1.len _ _ _ _ hq] at e
    exact e.symm
  have hus : us.length ≤ sizeLine := by
    rw [← Paired.length r1, sizeLine_eq]
    omega
  refine wpAny_call (PySem.HandSPX.call_own F.base hbm.has (I1.kIn _ _ hC) (PySem.W.looks_findIn I1.kIn iC) (fun self => PySem.W.bind_fn I1.kIn self tI) hus
    (codeAny_mono (F1.run _ X.stack _ _ ⟨Value.ref (hp.objs.size + 1) :: us, []⟩ (Value.ref (hp.objs.size + 1) :: (us ++ ds)) _ _ (fun _ _ _ => False) (hr.make C us []) (I2.env0.make C us []) (hb _ (Value.ref (hp.objs.size + 1) :: us) I2.kIn hl) r2 hq) fun r s' hq' => ?_))
  cases r with
  | error er => exact hx pins σ _ _ er s' I2 hq'
  | ok fl =>
    cases fl with
    | ret u =>
      obtain ⟨v, H2, os2, bare2, un2, hok2, rv, ev, d, fs, ea, ed, hd1, q2⟩ := hq'
      subst ev
      obtain ⟨h2, g2, d2, t2, os'⟩ := s'
      exact ⟨rv, mk_end (raises_own T.exC T.tyC) I1 hsz kk un2 hok2 os2 bare2 ea ed hd1 q2⟩
    | next => exact False.elim hq'
    | brk => exact False.elim hq'
    | cont => exact False.elim hq'
end
/-- the class x, right under a built-in one, makes exceptions of one field by its own __init__ -/
structure XMkR (P : Program) (w : World) (K : PySem.W.Frag) (mg : Str → Option Value) (base : Heap) (x f1 : Str) : Prop where
  ex : ∃ (B nw ini : String) (tl : List Value) (C fI : Addr) (fd : FuncData) (ps : List Str), RootF B nw ini tl ∧ mg x = some (.ref C) ∧ OexR K C nw tl ∧ PySem.W.findIn K (.ref C) "__init__" = some (some (.ref fI)) ∧ PySem.W.typeIn K (.ref fI) = some (.type "function") ∧ FnOk P w K mg base CX0 1 fI fd ps (spR1 K nw tl f1) ∧ Binds K fd ps [] ∧ PySem.W.findIn K (.ref C) f1 = some none
section
variable {X : Cx} {E : XK} {x f1 : Str} {p pos pos' : Pos} {e : Expr} {es : List Expr} {ca : AM}
end
end Mir

/-! defs that may raise, with defaults -/
namespace Mir
open PySem PySem.Spec PyProof.Rows L2
section
variable {P : Program} {w : World} {K : PySem.W.Frag} {mg : Str → Option Value} {base : Heap}
/-- a def that may raise, called by places, the defaults dd behind -/
structure FnXD (P : Program) (w : World) (K : PySem.W.Frag) (mg : Str → Option Value) (base : Heap) (k : Nat) (x : Str) (dd : List D) (fm : FM) : Prop where
  ex : ∃ f fd ps dvs ds, mg x = some (.ref f) ∧ PySem.W.keepIn K (.ref f) = true ∧ Binds K fd ps ds ∧ Vals dvs ds ∧ (∀ W H, Reps K W H dd dvs) ∧ FnOk P w K mg base (L2.CX P w) k f fd ps (spX K mg fm)
end
section
variable {X : Cx} {E : XK} {k : Nat} {x : Str} {dd : List D} {fm : FM} {p pos : Pos} {e : Expr} {es : List Expr} {ca : AM}
end
end Mir

/-! Mir: list(a dict). -/
namespace Mir
open PySem PySem.Spec PyProof.Rows L2
section
variable {X : Cx} {E : XK}
end
end Mir

/-! instances of own classes: fields, methods, making -/
namespace Mir
open PySem PySem.Spec PyProof.Rows L2
structure ClsM (K : PySem.W.Frag) (mg : Str → Option Value) (x : Str) (fl : List Str) : Prop where
  ex : ∃ C, mg x = some (.ref C) ∧ Cls K C ∧ ∀ f ∈ fl, NoAttr K C f
section
variable {K : PySem.W.Frag} {mg : Str → Option Value} {W : Wd} {H : Hp}
end
section
variable {X : Cx} {E : XK} {o e : Expr} {c co cv : EM} {pos p' : Pos} {x f : Str} {fl : List Str}
end
/-! ### methods -/
structure MtD (P : Program) (w : World) (K : PySem.W.Frag) (mg : Str → Option Value) (base : Heap) (k : Nat) (x q : Str) (ps : List Str) (fm : FM) : Prop where
  ex : ∃ C f fd, mg x = some (.ref C) ∧ Cls K C ∧ Meth K C q f ∧ Binds K fd ps [] ∧ FnOk P w K mg base CX0 k f fd ps (sp0 K mg fm)
structure MtX (P : Program) (w : World) (K : PySem.W.Frag) (mg : Str → Option Value) (base : Heap) (k : Nat) (x q : Str) (ps : List Str) (fm : FM) : Prop where
  ex : ∃ C f fd, mg x = some (.ref C) ∧ Cls K C ∧ Meth K C q f ∧ Binds K fd ps [] ∧ FnOk P w K mg base (L2.CX P w) k f fd ps (spX K mg fm)
structure InD (P : Program) (w : World) (K : PySem.W.Frag) (mg : Str → Option Value) (base : Heap) (k : Nat) (x : Str) (dd : List D) (fm : FM) : Prop where
  ex : ∃ C f fd ps dvs ds, mg x = some (.ref C) ∧ Mk K C f ∧ Binds K fd ps ds ∧ Vals dvs ds ∧ (∀ W H, Reps K W H dd dvs) ∧ FnOk P w K mg base CX0 k f fd ps (sp0 K mg fm)
structure InX (P : Program) (w : World) (K : PySem.W.Frag) (mg : Str → Option Value) (base : Heap) (k : Nat) (x : Str) (dd : List D) (fm : FM) : Prop where
  ex : ∃ C f fd ps dvs ds, mg x = some (.ref C) ∧ Mk K C f ∧ Binds K fd ps ds ∧ Vals dvs ds ∧ (∀ W H, Reps K W H dd dvs) ∧ FnOk P w K mg base (L2.CX P w) k f fd ps (spX K mg fm)
section
variable {X : Cx} {E : XK} {k : Nat} {x q : Str} {ps : List Str} {dd : List D} {fm : FM} {p pos apos : Pos} {o e : Expr} {es : List Expr} {co : EM} {ca : AM}
end
section
variable {P : Program} {w : World} {K : PySem.W.Frag} {mg : Str → Option Value} {base : Heap}
end
end Mir

/-! instances: len by an own __len__; reasoning with the mirrors of instances -/
namespace Mir
open PySem PySem.Spec PyProof.Rows L2
section
variable {X : Cx} {CX : CXT} {k : Nat} {f : Addr} {fd : FuncData} {ps : List Str} {sp : Sp} {E : XK}
end
section
variable {X : Cx} {E : XK} {k : Nat} {x : Str} {ps : List Str} {fm : FM}
end
/-! ### reasoning -/
section
variable (η : Env') (m : Mem)
end
end Mir

/-! try around one expression: the frame's variables are still known behind a catch -/
namespace Mir
open PySem PySem.Spec PyProof.Rows L2
section
variable {X : Cx} {W : WX} {CX' : CXT} {k : Nat} {x q : Str} {ps : List Str} {fm : FM} {p pos apos : Pos} {o e : Expr} {es : List Expr} {co : EM} {ca : AM}
end
/-! ### the statement -/
section
variable {X : Cx} {E : XK}
end
/-! ### reasoning -/
section
variable (η : Env') (m : Mem)
end
end Mir

/-! instances: == and != by an own __eq__ -/
namespace Mir
open PySem PySem.Spec PyProof.Rows L2
section
variable {X : Cx} {E : XK} {k : Nat} {x : Str} {ps : List Str} {fm : FM}
/-- what != asks of the class -/
structure NeO (K : PySem.W.Frag) (mg : Str → Option Value) (x : Str) : Prop where
  ex : ∃ C, mg x = some (.ref C) ∧ PySem.W.findIn K (.ref C) "__ne__" = some (some (.builtin "object.__ne__")) ∧ PySem.W.mroIn K C (.type "object") = some true
end
section
variable {X : Cx} {E : XK} {k : Nat} {x : Str} {ps : List Str} {fm : FM}
end
end Mir

/-! instances made by keywords -/
namespace Mir
open PySem PySem.Spec PyProof.Rows L2
structure InK (P : Program) (w : World) (K : PySem.W.Frag) (mg : Str → Option Value) (base : Heap) (k : Nat) (x : Str) (n : Nat) (ks : List Str) (ix : List Nat) (dd : List D) (fm : FM) : Prop where
  ex : ∃ C f fd ps dvs dv, mg x = some (.ref C) ∧ Mk K C f ∧ (∀ W H, Reps K W H dd dvs) ∧ KBn K fd ps (n + 1) ks (fun us ws => arr ix (us ++ ws ++ dv)) (fun vs zs => arr ix (vs ++ zs ++ dvs)) ∧ FnOk P w K mg base CX0 k f fd ps (sp0 K mg fm)
section
variable {P : Program} {w : World} {K : PySem.W.Frag} {mg : Str → Option Value} {base : Heap}
end
section
variable {X : Cx} {E : XK} {k n : Nat} {x : Str} {ks : List Str} {ix : List Nat} {dd : List D} {fm : FM} {p pos : Pos} {e : Expr} {es : List Expr} {kws : List Keyword} {ca cb : AM}
end
end Mir

/-! instances of classes that may raise, made by keywords -/
namespace Mir
open PySem PySem.Spec PyProof.Rows L2
structure InKX (P : Program) (w : World) (K : PySem.W.Frag) (mg : Str → Option Value) (base : Heap) (k : Nat) (x : Str) (n : Nat) (ks : List Str) (ix : List Nat) (dd : List D) (fm : FM) : Prop where
  ex : ∃ C f fd ps dvs dv, mg x = some (.ref C) ∧ Mk K C f ∧ (∀ W H, Reps K W H dd dvs) ∧ KBn K fd ps (n + 1) ks (fun us ws => arr ix (us ++ ws ++ dv)) (fun vs zs => arr ix (vs ++ zs ++ dvs)) ∧ FnOk P w K mg base (L2.CX P w) k f fd ps (spX K mg fm)
section
variable {P : Program} {w : World} {K : PySem.W.Frag} {mg : Str → Option Value} {base : Heap}
theorem kbn_of {x qual : Str} {st : Stmt} {f : Addr} {fd : FuncData} {ps : List Str} {n : Nat} {ks : List Str} {ix : List Nat} (F : Fun K x qual st f fd)
    (h : ∀ (kV doc pm : Value) (an : Option Addr) (cdv ct : Value) (us ws : List Value), us.length = n → ws.length = ks.length → bindArgs (PySem.W.fnOf x qual (defArgs st) (defBody st) (defScope st) .none kV doc pm an cdv ct) ⟨us, ks.zip ws⟩ = pure (ps.zip (arr ix (us ++ ws)))) :
    KBn K fd ps n ks (fun us ws => arr ix (us ++ ws ++ [])) (fun vs zs => arr ix (vs ++ zs ++ [])) := by
  obtain ⟨oc, od, kV, doc, pm, an, cdv, ct, osl, rfl, lk, hcd⟩ := F.ex
  exact ⟨fun s us ws _ l1 l2 => .of_eq (by rw [List.append_nil]; exact h kV doc pm an cdv ct us ws l1 l2), fun r1 r2 => arr_vals ((r1.append r2).append .nil) ix⟩
end
section
variable {X : Cx} {E : XK} {k n : Nat} {x : Str} {ks : List Str} {ix : List Nat} {dd : List D} {fm : FM} {p pos : Pos} {e : Expr} {es : List Expr} {kws : List Keyword} {ca cb : AM}
end
end Mir

/-! defs without loops, called within an except suite -/
namespace Mir
open PySem PySem.Spec PyProof.Rows L2
structure RoomN (k : Nat) (A : Around) : Prop where
  dp : A.depth + 3 * k + 5 < recursionLimit
  un : A.units + 16 * k + 200 < cLine
theorem RoomN.mono {j k : Nat} {A : Around} (r : RoomN k A) (h : j ≤ k) : RoomN j A := ⟨by have := r.dp; omega, by have := r.un; omega⟩
theorem RoomN.deeper {k : Nat} {A : Around} (r : RoomN (k + 1) A) (env : Env) : RoomN k (A.deeper env) :=
  ⟨by have := r.dp; show A.depth + 1 + 3 * k + 5 < _; omega, by have := r.un; show A.units + 3 + 16 * k + 200 < _; omega⟩
theorem RoomN.depth {k : Nat} {A : Around} (r : RoomN k A) : A.depth < recursionLimit := by have := r.dp; omega
theorem RoomN.units {k : Nat} {A : Around} (r : RoomN k A) : A.units + 64 < cLine := by have := r.un; omega
structure FnN (P : Program) (w : World) (K : PySem.W.Frag) (mg : Str → Option Value) (base : Heap) (CX : CXT) (k : Nat) (f : Addr) (fd : FuncData) (ps : List Str) (sp : Sp) : Prop where
  len : ∀ vs H Q E, sp vs H Q E → vs.length = ps.length
  run : ∀ (A : Around) (outer : List Env) (s : Shared) (H : Hp) (args : Args) (us : List Value) (vs : List V) (Q : VK) (E : XK), RoomN k A → Env0 P w K mg base A outer s H → BindsTo s fd args (ps.zip us) → Vals vs us → sp vs H Q E →
    codeAny (model P w) A (.call (.ref f) args) (CR CX outer P w H s Q E) s
section
variable {P : Program} {w : World} {K : PySem.W.Frag} {mg : Str → Option Value} {base : Heap}
end
structure FnDN (P : Program) (w : World) (K : PySem.W.Frag) (mg : Str → Option Value) (base : Heap) (k : Nat) (x : Str) (ps : List Str) (fm : FM) : Prop where
  ex : ∃ f fd, mg x = some (.ref f) ∧ PySem.W.keepIn K (.ref f) = true ∧ Binds K fd ps [] ∧ FnN P w K mg base CX0 k f fd ps (sp0 K mg fm)
structure MtDN (P : Program) (w : World) (K : PySem.W.Frag) (mg : Str → Option Value) (base : Heap) (k : Nat) (x q : Str) (ps : List Str) (fm : FM) : Prop where
  ex : ∃ C f fd, mg x = some (.ref C) ∧ Cls K C ∧ Meth K C q f ∧ Binds K fd ps [] ∧ FnN P w K mg base CX0 k f fd ps (sp0 K mg fm)
section
variable {X : Cx} {k : Nat} {f : Addr} {fd : FuncData} {ps : List Str} {sp : Sp} {E : XK} {x q : Str} {fm : FM} {p pos apos : Pos} {o e : Expr} {es : List Expr} {co : EM} {ca : AM}
end
end Mir

/-! Mir: mirrors that laws share, with their constants (printed by share7.py). -/
namespace Mir.Y
open PySem PySem.Spec PyProof.Rows L2 Mir
end Mir.Y

/-! Mir: mirrors that laws share, with their constants (printed by share8.py). -/
namespace Mir.Y
open PySem PySem.Spec PyProof.Rows L2 Mir
end Mir.Y

/-! Mir: t[::c] of a tuple. -/
namespace Mir
open PySem PySem.Spec PyProof.Rows L2
section
variable {X : Cx} {E : XK} {prog : Program} {w : World} {A : Around} {Ex : Value → Shared → Prop} {s : Shared}
end
end Mir

/-! repr of what is laid deep: told by its data -/
namespace Mir
open PySem PySem.Spec PyProof.Rows L2
def bRepr (ds : List D) (m : Mem) : R D := match ds with
  | [d] => match toP m 60 d with
    | some p => if PyData.showable p = true ∧ (PyData.shown p).length ≤ sizeLine then .ok (.str (PyData.shown p)) m else .stk
    | none => .stk
  | _ => .stk
section
variable {X : Cx} {E : XK}
theorem cm_repr (hg : X.A.guards = some []) (hu : X.A.units + 65 < cLine) : CallR X (.builtin "repr") (rCM X.K X.mg E bRepr) := by
  rintro pins s σ H xs us Q I rv ⟨W, m, ds, sm, rs, p⟩
  unfold bRepr at p
  split at p
  · rename_i d
    obtain ⟨v, vr, rfl, r1, r2⟩ := rs.cons'
    rw [r2.nil'] at rv
    obtain ⟨u, rfl, rv1⟩ := vals1 rv
    split at p
    · rename_i pd hp
      split at p
      · rename_i hz
        obtain ⟨q1, q2, q3⟩ := toP_ok sm 60 d v pd r1 hp
        obtain ⟨as, rd⟩ := Dp.reads I pd v u q1 rv1
        have fin : ∀ (h' : Heap) (t : Tok) (tk : Nat), (∀ b o, s.heap.get? b = some o → h'.get? b = some o) → EP X pins σ Q (.str (PyData.shown pd) t) { s with heap := h', toks := tk } := fun h' t tk hk =>
          ⟨.str (PyData.shown pd), H, I.kept hk, ⟨t, rfl⟩, p.now sm rep_str⟩
        have hnd := PyData.hasDict_of_canLay pd q2
        cases rd with
        | none => exact PySem.P.repr_of_none (fin s.heap _ _ fun _ _ e => e)
        | bool b => exact PySem.P.repr_of_bool (fin s.heap _ _ fun _ _ e => e)
        | int i t => exact PySem.P.repr_of_int (by simpa [PyData.showable] using hz.1) (fin s.heap _ _ fun _ _ e => e)
        | str x t => exact PySem.P.repr_of_str (fin s.heap _ _ fun _ _ e => e) hz.2
        | list a1 a2 a3 a4 => exact repr_of_reads' (.list a1 a2 a3 a4) hz.1 (PyData.noDict_hsm hnd) hg (by omega) (fun _ _ e => e) (fun h' t tk hk => fin h' t tk hk) hz.2
        | tuple a1 a2 a3 a4 => exact repr_of_reads' (.tuple a1 a2 a3 a4) hz.1 (PyData.noDict_hsm hnd) hg (by omega) (fun _ _ e => e) (fun h' t tk hk => fin h' t tk hk) hz.2
        | dict a1 a2 a3 a4 a5 => simp [PyData.hasDict] at hnd
      · exact p.elim
    · exact p.elim
  · exact p.elim
end
end Mir

/-! defs that are called while no repr runs -/
namespace Mir
open PySem PySem.Spec PyProof.Rows L2
structure RoomG (k : Nat) (A : Around) : Prop where
  room : Room k A
  gd : A.guards = some []
theorem RoomG.mono {j k : Nat} {A : Around} (r : RoomG k A) (h : j ≤ k) : RoomG j A := ⟨r.room.mono h, r.gd⟩
theorem RoomG.deeper {k : Nat} {A : Around} (r : RoomG (k + 1) A) (env : Env) : RoomG k (A.deeper env) := ⟨r.room.deeper env, r.gd⟩
theorem RoomG.un {k : Nat} {A : Around} (r : RoomG k A) : A.units + 65 < cLine := by have := r.room.un; omega
structure FnG (P : Program) (w : World) (K : PySem.W.Frag) (mg : Str → Option Value) (base : Heap) (CX : CXT) (k : Nat) (f : Addr) (fd : FuncData) (ps : List Str) (sp : Sp) : Prop where
  len : ∀ vs H Q E, sp vs H Q E → vs.length = ps.length
  run : ∀ (A : Around) (outer : List Env) (s : Shared) (H : Hp) (args : Args) (us : List Value) (vs : List V) (Q : VK) (E : XK), RoomG k A → Env0 P w K mg base A outer s H → BindsTo s fd args (ps.zip us) → Vals vs us → sp vs H Q E →
    codeAny (model P w) A (.call (.ref f) args) (CR CX outer P w H s Q E) s
theorem FnG.imp {P : Program} {w : World} {K : PySem.W.Frag} {mg : Str → Option Value} {base : Heap} {CX : CXT} {k : Nat} {f : Addr} {fd : FuncData} {ps : List Str} {sp sp' : Sp} (F : FnG P w K mg base CX k f fd ps sp)
    (h : ∀ vs H Q E, sp' vs H Q E → sp vs H Q E) : FnG P w K mg base CX k f fd ps sp' :=
  ⟨fun vs H Q E q => F.len vs H Q E (h _ _ _ _ q), fun A outer s H args us vs Q E hr he hb hv hs => F.run A outer s H args us vs Q E hr he hb hv (h _ _ _ _ hs)⟩
theorem fn_ofG {CX : CXT} {P : Program} {w : World} {K : PySem.W.Frag} {mg : Str → Option Value} {base : Heap} {k : Nat} {f : Addr} {name qual : Str} {params : Arguments} {body : List Stmt} {scope : Scope} {dV kV doc pm cdv ct oc : Value} {an od : Option Addr}
    {osl : Array (Option Value)} {N ps : List Str} {sp : Sp} (lk : K.lookup f = some ⟨oc, od, .func (PySem.W.fnOf name qual params body scope dV kV doc pm an cdv ct), osl⟩) (hcd : PySem.W.codeIn K cdv qual = true) (S : FnScope N ps scope)
    (len : ∀ vs H Q E, sp vs H Q E → vs.length = ps.length)
    (hbody : ∀ (A : Around) (outer : List Env) (s : Shared) (H : Hp) (vs : List V) (Q : VK) (E : XK), RoomG k (A.deeper (envOfC qual scope s.heap.objs.size f cdv)) → sp vs H Q E →
      ∃ t, PSs (cxOf CX P w K mg base N qual scope f cdv A outer s H E) body t ∧ t { nx := fun _ H' => Q .non H', rt := Q } (L2.start N vs) H) :
    FnG P w K mg base CX (k + 1) f (PySem.W.fnOf name qual params body scope dV kV doc pm an cdv ct) ps sp := by
  refine ⟨len, fun A outer s H args us vs Q E hr e0 hb r hsp => ?_⟩
  have hl := len _ _ _ _ hsp
  have KX : K.In s.heap := e0.mod.kin.keeps fun b o e => (e0.bs b o e).1
  have lim : s.heap.NoLimit := e0.mod.nolimit.keeps fun b o e => (e0.bs b o e).1
  have hkind : ∀ y ∈ ps.zip us, scope.names.lookup y.1 = some .local ∨ (scope.names.lookup y.1 = some .cell ∧ ((cellsFrom (s.heap.objs.size + 1) scope.names []).lookup y.1).isSome = true) := fun ⟨n, v⟩ hy => by
    rcases S.par n (List.of_mem_zip hy).1 with q | q
    · exact .inl q
    · exact .inr ⟨q, PySem.W.cellsFrom_some _ _ _ (.inl q)⟩
  refine codeAny_call_function hr.room.depth (KX _ _ lk) rfl S.co S.gen rfl (PySem.W.codeRec_of KX hcd) (hb _ _ _ _ ?_)
  refine wpAny_newFunctionEnv_cells S.kind hkind fun env he s1 x => ?_
  subst he
  refine ⟨lim.keeps x.toInCall.keep, codeAny_func ?_⟩
  obtain ⟨t, ht, hq⟩ := hbody A outer s H vs Q E (hr.deeper _) hsp
  have I : L2.Inv (cxOf CX P w K mg base N qual scope f cdv A outer s H E) [] (L2.start N vs) H s1 := L2.inv_start S hr.room.hd e0 hl r x
  refine wpAny_mono (ht.run [] s1 (L2.start N vs) H _ I hq) (fun fl s' hs => ?_) fun e s' hs => hs
  have fin : ∀ {σ' : SL} {H' : Hp} {v : V} {u : Value}, L2.Inv (cxOf CX P w K mg base N qual scope f cdv A outer s H E) [] σ' H' s' → L2.RelV v u → Q v H' → CE outer P w H s Q u s' :=
    fun {σ' H' v u} J rv q => ⟨v, H', J.os, J.bare, J.base, J.hok, rv, q⟩
  cases fl with
  | ret u =>
    obtain ⟨v, σ', H', J, rv, q⟩ := hs
    exact fin J rv q
  | next =>
    obtain ⟨σ', H', J, q⟩ := hs
    exact fin (v := V.non) (u := Value.none) J rfl q
  | brk =>
    obtain ⟨_, _, _, q⟩ := hs
    exact False.elim q
  | cont =>
    obtain ⟨_, _, _, q⟩ := hs
    exact False.elim q
section
variable {P : Program} {w : World} {K : PySem.W.Frag} {mg : Str → Option Value} {base : Heap}
theorem fn_okG {x qual : Str} {st : Stmt} {f : Addr} {fd : FuncData} {N ps : List Str} {k : Nat} {body : SM} (F : Fun K x qual st f fd) (S : FnScope N ps (defScope st))
    (h : ∀ (cdv : Value) (A : Around) (outer : List Env) (s : Shared) (H : Hp) (E : XK), RoomG k (A.deeper (envOfC qual (defScope st) s.heap.objs.size f cdv)) → MSs (cxOf CX0 P w K mg base N qual (defScope st) f cdv A outer s H E).nox E0 (defBody st) body) :
    FnG P w K mg base CX0 (k + 1) f fd ps (sp0 K mg (mFn ps.length N.length body)) := by
  have hlen : ∀ {vs H Q E}, sp0 K mg (mFn ps.length N.length body) vs H Q E → vs.length = ps.length := fun {vs H Q E} ⟨W, m, ds, s, r, p⟩ => by
    unfold mFn at p
    split at p
    · rename_i hl
      rw [r.length]
      exact hl
    · exact p.elim
  obtain ⟨oc, od, kV, doc, pm, an, cdv, ct, osl, rfl, lk, hcd⟩ := F.ex
  refine fn_ofG lk hcd S (fun vs H Q E q => hlen q) (fun A outer s H vs Q E hr q => ?_)
  have hl := hlen q
  obtain ⟨W, m, ds, sm, r, p⟩ := q
  refine ⟨_, (h cdv A outer s H E hr).nox, W, ds.map some ++ List.replicate (N.length - ds.length) none, m, sm, renv_start r, ?_⟩
  unfold mFn at p
  rw [if_pos (by rw [← r.length]; exact hl)] at p
  revert p
  generalize body (ds.map some ++ List.replicate (N.length - ds.length) none) m = res
  intro p
  cases res with
  | nxt η m' => exact fun σ W' H' e s n => p .non W' H' e s rep_non
  | ret d m' => exact fun v W' H' e s n => p v W' H' e s n
  | exc x m' => exact p
  | brk η m' => exact p.elim
  | cnt η m' => exact p.elim
  | stk => exact p.elim
end
structure FnDG (P : Program) (w : World) (K : PySem.W.Frag) (mg : Str → Option Value) (base : Heap) (k : Nat) (x : Str) (ps : List Str) (fm : FM) : Prop where
  ex : ∃ f fd, mg x = some (.ref f) ∧ PySem.W.keepIn K (.ref f) = true ∧ Binds K fd ps [] ∧ FnG P w K mg base CX0 k f fd ps (sp0 K mg fm)
section
variable {X : Cx} {k : Nat} {f : Addr} {fd : FuncData} {ps : List Str} {sp : Sp} {E : XK} {x q : Str} {fm : FM} {p pos apos : Pos} {o e : Expr} {es : List Expr} {co : EM} {ca : AM}
theorem run_fnG {pins : List (Addr × Obj)} {σ : SL} {H : Hp} {s : Shared} {Q : VK} {us : List Value} {vs : List V} (F : FnG X.prog X.w X.K X.mg X.base CX0 k f fd ps sp) (hr : RoomG k X.A) (hb : Binds X.K fd ps []) (hx : Passes CX0 X E)
    (I : L2.Inv X pins σ H s) (r : Vals vs us) (h : sp vs H Q E) : wpAny (model X.prog X.w) X.A (call (.ref f) us) (EP X pins σ Q) X.xe s := by
  have hl : us.length = ps.length := by rw [← r.length]; exact F.len _ _ _ _ h
  have b := hb s us I.kIn (by rw [List.append_nil]; exact hl)
  rw [List.append_nil] at b
  refine wpAny_call (codeAny_mono (F.run X.A X.stack s H ⟨us, []⟩ us vs Q E hr I.env0 b r h) fun r s' hq => ?_)
  cases r with
  | error e => exact hx pins σ H s e s' I hq
  | ok fl =>
    cases fl with
    | ret u => exact I.after hq
    | next => exact False.elim hq
    | brk => exact False.elim hq
    | cont => exact False.elim hq
theorem me_callG (F : FnDG X.prog X.w X.K X.mg X.base k x ps fm) (hr : RoomG k X.A) (hg : Gl X x) (ha : MA X E (e :: es) ca) (hdb : (x == ("__debug__" : Str)) = false := by decide) (he : starEach (e :: es) X.env = (false, eval e X.env) :: starEach es X.env := by rfl) (hpl : (backTo pos (starEach es X.env)).any (·.1) = false := by rfl) :
    MEx X E (.Call (.Name x p) (e :: es) [] pos) (mCall fm ca) := by
  obtain ⟨f, fd, h1, h2, h3, h4⟩ := F.ex
  refine ⟨fun pins s σ H Q I ⟨W, η, m, sm, n, pp⟩ => ?_⟩
  refine wpAny_Call_Name_kw (ld_glob I hg h1 ?_ hdb)
  refine PySem.W.callWith_K (h₀ := X.base) I.ok.mod.kin h2 (thn (ha.run pos pins s σ H _ I ⟨W, η, m, sm, n, Post.bind (Rl := Reps X.K) pp⟩) fun us s1 ⟨vs, H1, I1, r, W1, ds, m1, e1, s1', r1, p1⟩ => ⟨I1.kIn, ?_⟩) he hpl
  exact run_fnG (E := E0) h4 hr h3 pass0 I1 r ⟨W1, m1, ds, s1', r1, Post.nox p1⟩
end
/-! ### the law itself, called at the top: no repr runs there -/
section
variable {P : Program} {w : World} {K : PySem.W.Frag} {mg mb : Str → Option Value} {CX : CXT} {k : Nat} {fa a : Addr} {fd : FuncData} {x : Str} {sp : Sp} {s₁ : Shared} {vs : List Value} {ns : List Int} {H : Hp}
/-- what is tracked is the script at most: all else of the heap is the base -/
structure Lone (K : PySem.W.Frag) (H : Hp) (a : Addr) : Prop where
  one : ∀ b, H b ≠ none → b = a
  low : H a ≠ none → K.lookup a = none
theorem Lone.mod (L : Lone K H a) (KX : K.In s₁.heap) (hns : s₁.heap.Ns mainGlobals mg) (hb : s₁.heap.Ns builtinsNs mb) (hbb : ∀ x : Str, x ≠ "__name__" → mb x = bootBuiltins x) (hlim : s₁.heap.NoLimit)
    (ha : s₁.heap.get? a = some { cls := .type "list", data := .seq vs.toArray }) : K.In (hidT s₁.heap H) ∧ (hidT s₁.heap H).Ns mainGlobals mg ∧ Mod K mg (hidT s₁.heap H) := by
  have free : ∀ {b : Addr} {o : Obj} {es : Array DictEntry} {n : Nat}, s₁.heap.get? b = some o → o.data = .dict es n → H b = none := fun {b o es n} e d => Classical.byContradiction fun z => by
    obtain rfl := L.one b z
    rw [ha] at e
    cases e
    have d' : Data.seq vs.toArray _ = Data.dict es n := d
    cases d'
  have ns : ∀ {b : Addr} {m : Str → Option Value}, s₁.heap.Ns b m → (hidT s₁.heap H).Ns b m := fun ⟨o, es, n, e, d, r⟩ => ⟨o, es, n, hidT_get e (free e d), d, r⟩
  have kin : K.In (hidT s₁.heap H) := fun b o e => hidT_get (KX b o e) (Classical.byContradiction fun z => by
    obtain rfl := L.one b z
    rw [L.low z] at e
    cases e)
  exact ⟨kin, ns hns, kin, ns hns, ⟨mb, ns hb, hbb⟩, let ⟨mc, h1, h2⟩ := hlim; ⟨mc, ns h1, h2⟩⟩
theorem lone_call (L : Lone K H a) (hO : Only H) (hok : HOk P w H s₁.heap) (KX : K.In s₁.heap) (hns : s₁.heap.Ns mainGlobals mg) (hb : s₁.heap.Ns builtinsNs mb) (hbb : ∀ x : Str, x ≠ "__name__" → mb x = bootBuiltins x) (hlim : s₁.heap.NoLimit) (hg : s₁.gens = #[])
    (ha : s₁.heap.get? a = some { cls := .type "list", data := .seq vs.toArray }) (hr : RoomG k callerA)
    (F : ∀ base : Heap, K.In base → base.Ns mainGlobals mg → FnG P w K mg base CX k fa fd [x] sp) (hbind : ∀ (s : Shared) (u : Value), BindsTo s fd ⟨[u], []⟩ [(x, u)])
    (hsp : sp [.ref a] H (fun v _ => v = .bl true) fun _ _ _ => False) (hCX : ∀ H e s', CX [] H s₁ (fun _ _ _ => False) e s' → False) :
    codeAny (model P w) callerA (.call (.ref fa) ⟨[.ref a], []⟩) (fun r s' => r = .ok (.ret (.bool true)) ∧ OldK s₁.heap s'.heap ∧ s'.os = s₁.os ∧ AllBare s'.gens) s₁ := by
  obtain ⟨kin, nsm, mod⟩ := L.mod KX hns hb hbb hlim ha
  have e0 : Env0 P w K mg (hidT s₁.heap H) callerA [] s₁ H := ⟨rfl, mod, fun b o e => of_hidT e, Nat.le_of_eq (hidT_size _ _), trivial, fun b z => absurd (show b ∈ ([] : List Addr) from z) (by simp), hok, .of_eq hg⟩
  refine codeAny_mono ((F _ kin nsm).run callerA [] s₁ H ⟨[.ref a], []⟩ [.ref a] [.ref a] _ _ hr e0 (hbind s₁ (.ref a)) (.cons rfl .nil) hsp) fun r s' h => ?_
  match r, h with
  | .error e, h => exact (hCX H e s' h).elim
  | .ok .next, h => exact False.elim h
  | .ok .brk, h => exact False.elim h
  | .ok .cont, h => exact False.elim h
  | .ok (.ret u), h =>
    obtain ⟨v, H', os, bare, un, hok', r', q⟩ := h
    have q' : v = .bl true := q
    subst q'
    obtain rfl : u = Value.bool true := r'
    refine ⟨rfl, OldK.of_keep fun b o e => ?_, os, bare⟩
    rcases hO b with z | ⟨ob, xs, z⟩
    · exact un.keep b o e z (by intro z; exact absurd (show b ∈ ([] : List Addr) from z) (by simp)) (by simp)
    · have e1 := (hok b _ z).1
      have e2 := (hok' b _ (un.frzs b ob _ z)).1
      rw [e] at e1
      cases e1
      exact e2
theorem law_callG (KX : K.In s₁.heap) (hns : s₁.heap.Ns mainGlobals mg) (hb : s₁.heap.Ns builtinsNs mb) (hbb : ∀ x : Str, x ≠ "__name__" → mb x = bootBuiltins x) (hlim : s₁.heap.NoLimit) (hg : s₁.gens = #[])
    (ha : s₁.heap.get? a = some { cls := .type "list", data := .seq vs.toArray }) (hi : IntsAre vs ns) (hl : ns.length ≤ sizeLine) (hr : RoomG k callerA)
    (F : ∀ base : Heap, K.In base → base.Ns mainGlobals mg → FnG P w K mg base CX k fa fd [x] sp) (hbind : ∀ (s : Shared) (u : Value), BindsTo s fd ⟨[u], []⟩ [(x, u)])
    (hsp : ∀ H : Hp, Only H → SqL K H a (ns.map V.int) → sp [.ref a] H (fun v _ => v = .bl true) fun _ _ _ => False)
    (hCX : ∀ H e s', CX [] H s₁ (fun _ _ _ => False) e s' → False) :
    codeAny (model P w) callerA (.call (.ref fa) ⟨[.ref a], []⟩) (fun r s' => r = .ok (.ret (.bool true)) ∧ OldK s₁.heap s'.heap ∧ s'.os = s₁.os ∧ AllBare s'.gens) s₁ := by
  have rv := L2.vals_ints hi
  have lenV := hi.length
  cases hk : K.lookup a with
  | some o =>
    have e := KX a o hk
    rw [ha] at e
    cases e
    have hO : Only (fun _ => none) := fun _ => .inl rfl
    exact lone_call (H := fun _ => none) ⟨fun b z => absurd rfl z, fun z => absurd rfl z⟩ hO (fun b u z => by have z' : (none : Option HO) = some u := z; cases z') KX hns hb hbb hlim hg ha hr F hbind
      (hsp _ hO (.inr ⟨_, vs.toArray, _, hk, rfl, rfl, rfl, by rw [List.size_toArray, lenV]; exact hl, by simpa using rv⟩)) hCX
  | none =>
    obtain ⟨H, hH⟩ : ∃ H : Hp, H = upd (fun _ => none) a (.frz { cls := .type "list", data := .seq vs.toArray } (.lst (ns.map V.int))) := ⟨_, rfl⟩
    have at' : H a = some (.frz { cls := .type "list", data := .seq vs.toArray } (.lst (ns.map V.int))) := by rw [hH]; exact upd_same
    have off : ∀ b, b ≠ a → H b = none := fun b hb => by rw [hH, upd_ne hb]
    have one : ∀ b, H b ≠ none → b = a := fun b z => Classical.byContradiction fun h => z (off b h)
    have hO : Only H := fun b => by
      by_cases hb : b = a
      · subst hb; exact .inr ⟨_, _, at'⟩
      · exact .inl (off b hb)
    refine lone_call (H := H) ⟨one, fun _ => hk⟩ hO (fun b u z => ?_) KX hns hb hbb hlim hg ha hr F hbind (hsp _ hO (.inl (.inr ⟨_, at'⟩))) hCX
    obtain rfl := one b (by rw [z]; simp)
    rw [at'] at z
    cases z
    exact ⟨ha, by rw [List.length_map]; exact hl, vs, _, rv, ha⟩
end
theorem walk_ofG {l : PySem.W.OpenLaw} {n k : Nat} {q : Program} {loose : List Str} {XP : (Str → Option Value) → Heap → Prop} {YP : World → Heap → Prop} {d : DefRec} {K : Params → PySem.W.Frag} {CX : World → CXT} {sp : World → Sp} {x : Str}
    (hn : l.most = some n) (hn2 : n ≤ sizeLine) (hdf : d.params.defaults = []) (hr : RoomG k callerA)
    (hY : ∀ (w : World) (h : Heap), YP w h → (K w.params).In h)
    (F : ∀ (w : World) (mg : Str → Option Value) (fa : Addr) (h : Heap), (K w.params).In h → h.Ns mainGlobals mg → mg d.name = some (.ref fa) →
      ∃ fd : FuncData, (∀ (s : Shared) (u : Value), BindsTo s fd ⟨[u], []⟩ [(x, u)]) ∧
        ∀ base : Heap, (K w.params).In base → base.Ns mainGlobals mg → FnG l.prog w (K w.params) mg base (CX w) k fa fd [x] (sp w))
    (hsp : ∀ (w : World) (H : Hp) (a : Addr) (ns : List Int), ns.length ≤ n → Only H → SqL (K w.params) H a (ns.map V.int) → sp w [.ref a] H (fun v _ => v = .bl true) fun _ _ _ => False)
    (hCX : ∀ (w : World) (H : Hp) (s : Shared) (e : Value) (s' : Shared), CX w [] H s (fun _ _ _ => False) e s' → False) :
    PySem.W.WalkO q loose XP YP l.row.toRowW d [] (fun f vs => PySem.call f vs) := by
  refine Att.attach_call hn hdf fun w s₀ s₁ mg mb fa o pm cd doc a vs ns G Y ho hd hcd hmg hobj hints hlen hg => ?_
  have KX := hY w _ Y
  obtain ⟨fd, hb, hF⟩ := F w mg fa _ KX G.T.g hmg
  exact law_callG KX G.T.g G.T.b G.T.builtins G.T.nolimit hg hobj hints (Nat.le_trans hlen hn2) hr hF hb (fun H hO hS => hsp w H a ns hlen hO hS) fun H e s' => hCX w H s₁ e s'
end Mir

/-! how long the text of repr is: by weights -/
namespace Mir
open PySem PySem.Spec PyProof.Rows L2
mutual
def pw : PyData → Nat
  | .none => 10
  | .bool _ => 10
  | .int _ => 60
  | .str x => (reprText x).length
  | .list xs => 8 + pws xs
  | .tuple xs => 8 + pws xs
  | .dict _ => 0
def pws : List PyData → Nat
  | [] => 0
  | x :: xs => pw x + 2 + pws xs
end
mutual
/-- small ints only, no dicts -/
def psm : PyData → Bool
  | .none => true
  | .bool _ => true
  | .int i => decide (i.natAbs < 10 ^ 25)
  | .str _ => true
  | .list xs => psms xs
  | .tuple xs => psms xs
  | .dict _ => false
def psms : List PyData → Bool
  | [] => true
  | x :: xs => psm x && psms xs
end
theorem text_le : ∀ (ts : List Str) (k : Nat) (acc : Str), (textFrom k acc ts).length ≤ acc.length + piled ts
  | [], k, acc => by show acc.length ≤ acc.length + piled []; omega
  | t :: r, k, acc => by
    have h := text_le r (k + 1) (acc ++ (if k > 0 then ", " else "" : String) ++ t)
    have e : (acc ++ (if k > 0 then ", " else "" : String) ++ t).length ≤ acc.length + 2 + t.length := by
      rw [strLen_append, strLen_append]
      split
      · exact Nat.le_refl _
      · have : (("" : String) : Str).length = 0 := rfl
        omega
    rw [piled_cons]
    show (textFrom (k + 1) (acc ++ (if k > 0 then ", " else "" : String) ++ t) r).length ≤ _
    omega
theorem list_le (ts : List Str) : (listText ts).length ≤ 8 + piled ts := by
  unfold listText
  rw [strLen_append]
  have := text_le ts 0 "["
  have e1 : (("[" : String) : Str).length = 1 := rfl
  have e2 : (("]" : String) : Str).length = 1 := rfl
  omega
theorem tuple_le (ts : List Str) : (tupleText ts).length ≤ 8 + piled ts := by
  unfold tupleText
  rw [strLen_append, strLen_append]
  have e1 : (("(" : String) : Str).length = 1 := rfl
  have e2 : ((if ts.length == 1 then ",)" else ")" : String) : Str).length ≤ 2 := by split <;> decide
  by_cases h : ts = []
  · subst h
    have : (Str.join ", " []).length = 0 := rfl
    omega
  · have := join_length_add ts h
    omega
mutual
theorem shown_le : ∀ p : PyData, psm p = true → (PyData.shown p).length ≤ pw p
  | .none, _ => by decide
  | .bool b, _ => by cases b <;> decide
  | .int i, h => by
    have h : i.natAbs < 10 ^ 25 := of_decide_eq_true h
    have := int_text_length_le10 (by decide) h
    have e := PySem.ofString_length (toString i)
    have e2 : (PyData.shown (.int i)).length = (Str.ofString (toString i)).length := rfl
    have e3 : pw (.int i) = 60 := rfl
    omega
  | .str x, _ => Nat.le_refl _
  | .list xs, h => by
    have := list_le (PyData.shownAll xs)
    have h2 := shownAll_le xs h
    show (listText (PyData.shownAll xs)).length ≤ 8 + pws xs
    omega
  | .tuple xs, h => by
    have := tuple_le (PyData.shownAll xs)
    have h2 := shownAll_le xs h
    show (tupleText (PyData.shownAll xs)).length ≤ 8 + pws xs
    omega
  | .dict kvs, h => by cases h
theorem shownAll_le : ∀ ps : List PyData, psms ps = true → piled (PyData.shownAll ps) ≤ pws ps
  | [], _ => Nat.le_refl _
  | p :: ps, h => by
    rw [psms, Bool.and_eq_true] at h
    have h1 := shown_le p h.1
    have h2 := shownAll_le ps h.2
    show piled (PyData.shown p :: PyData.shownAll ps) ≤ pw p + 2 + pws ps
    rw [piled_cons]
    omega
end
/-! ### things made of texts, small ints, tuples and lists -/
/-- a thing of its own, so deep at most -/
def okD : Nat → D → Prop
  | 0, _ => False
  | n + 1, d => match d with
    | .tup ds => ∀ e ∈ ds, okD n e
    | .lst ds => ∀ e ∈ ds, okD n e
    | .scr _ => False
    | .ref _ => False
    | _ => True
theorem okD.up : ∀ {a b : Nat} {d : D}, okD a d → a ≤ b → okD b d
  | 0, _, _, h, _ => h.elim
  | a + 1, 0, _, _, hab => by omega
  | a + 1, b + 1, d, h, hab => by
    cases d with
    | tup ds => exact fun e he => okD.up (h e he) (by omega)
    | lst ds => exact fun e he => okD.up (h e he) (by omega)
    | scr ds => exact h.elim
    | ref i => exact h.elim
    | non => trivial
    | bl b => trivial
    | int i => trivial
    | str x => trivial
/-- so deep at most, its repr of so many signs at most -/
def Pl (dep n : Nat) (d : D) : Prop := okD dep d ∧ ∃ p, (∀ m k, toP m (k + dep) d = some p) ∧ psm p = true ∧ pw p ≤ n
def Pls (dep n : Nat) (ds : List D) : Prop := (∀ e ∈ ds, okD dep e) ∧ ∃ ps, (∀ m k, mapO (toP m (k + dep)) ds = some ps) ∧ psms ps = true ∧ pws ps ≤ n
mutual
theorem psm_showable : ∀ p : PyData, psm p = true → PyData.showable p = true
  | .none, _ => rfl
  | .bool b, _ => rfl
  | .int i, h => by
    have h : i.natAbs < 10 ^ 25 := of_decide_eq_true h
    refine decide_eq_true ?_
    by_cases h0 : i.natAbs = 0
    · rw [h0]; decide
    · exact (Nat.log2_lt h0).mpr (Nat.lt_of_lt_of_le h (by decide +kernel))
  | .str x, _ => rfl
  | .list xs, h => psms_showable xs h
  | .tuple xs, h => psms_showable xs h
  | .dict kvs, h => by cases h
theorem psms_showable : ∀ ps : List PyData, psms ps = true → PyData.showableAll ps = true
  | [], _ => rfl
  | p :: ps, h => by
    rw [psms, Bool.and_eq_true] at h
    show (PyData.showable p && PyData.showableAll ps) = true
    rw [psm_showable p h.1, psms_showable ps h.2]
    rfl
end
theorem Pl.up {a b n k : Nat} {d : D} (h : Pl a n d) (hab : a ≤ b) (hk : n ≤ k) : Pl b k d := by
  obtain ⟨h0, p, h1, h2, h3⟩ := h
  exact ⟨h0.up hab, p, fun m j => by rw [show j + b = (j + (b - a)) + a by omega]; exact h1 m _, h2, Nat.le_trans h3 hk⟩
theorem Pls.up {a b n k : Nat} {ds : List D} (h : Pls a n ds) (hab : a ≤ b) (hk : n ≤ k) : Pls b k ds := by
  obtain ⟨h0, p, h1, h2, h3⟩ := h
  exact ⟨fun e he => (h0 e he).up hab, p, fun m j => by rw [show j + b = (j + (b - a)) + a by omega]; exact h1 m _, h2, Nat.le_trans h3 hk⟩
theorem pl_tup {dep n : Nat} {ds : List D} : Pl (dep + 1) (8 + n) (.tup ds) ↔ Pls dep n ds := by
  constructor
  · rintro ⟨h0, p, h1, h2, h3⟩
    refine ⟨h0, ?_⟩
    have e : ∀ m k, (mapO (toP m (k + dep)) ds).map PyData.tuple = some p := h1
    cases hm : mapO (toP [] (0 + dep)) ds with
    | none => have := e [] 0; rw [hm] at this; cases this
    | some ps =>
      have e0 := e [] 0
      rw [hm] at e0
      cases e0
      refine ⟨ps, fun m k => ?_, h2, by have : pw (.tuple ps) = 8 + pws ps := rfl; omega⟩
      have := e m k
      cases hm2 : mapO (toP m (k + dep)) ds with
      | none => rw [hm2] at this; cases this
      | some qs => rw [hm2] at this; cases this; rfl
  · rintro ⟨h0, ps, h1, h2, h3⟩
    refine ⟨h0, .tuple ps, fun m k => ?_, h2, by show 8 + pws ps ≤ 8 + n; omega⟩
    show (mapO (toP m (k + dep)) ds).map PyData.tuple = _
    rw [h1]
    rfl
theorem pls_nil {dep : Nat} : Pls dep 0 [] := ⟨fun _ h => (nomatch h), [], fun _ _ => rfl, rfl, Nat.le_refl _⟩
theorem pls_cons {dep n k : Nat} {d : D} {ds : List D} (h : Pl dep n d) (hs : Pls dep k ds) : Pls dep (n + 2 + k) (d :: ds) := by
  obtain ⟨a0, p, a1, a2, a3⟩ := h
  obtain ⟨b0, ps, b1, b2, b3⟩ := hs
  refine ⟨fun e he => ?_, p :: ps, fun m j => ?_, by rw [psms, a2, b2]; rfl, by show pw p + 2 + pws ps ≤ _; omega⟩
  · rcases List.mem_cons.mp he with rfl | he
    · exact a0
    · exact b0 e he
  · unfold mapO
    rw [a1, b1]
theorem pl_non {dep : Nat} : Pl (dep + 1) 10 .non := ⟨trivial, .none, fun _ _ => rfl, rfl, Nat.le_refl _⟩
theorem pl_big {dep : Nat} {i : Int} (h : i.natAbs < 10 ^ 25) : Pl (dep + 1) 60 (.int i) := ⟨trivial, .int i, fun _ _ => rfl, decide_eq_true h, Nat.le_refl _⟩
theorem pl_str {dep n : Nat} {x : Str} (h : PyData.strOk x = true) (hn : (reprText x).length ≤ n) : Pl (dep + 1) n (.str x) := ⟨trivial, .str x, fun m k => by show (if PyData.strOk x = true then some (PyData.str x) else none) = _; rw [if_pos h], rfl, hn⟩
theorem repr_pl {d : D} {n : Nat} (h : Pl 20 n d) (hn : n ≤ 1000000) (m m' : Mem) : ∃ x, bRepr [d] m = .ok (.str x) m ∧ bRepr [d] m' = .ok (.str x) m' := by
  obtain ⟨_, p, h1, h2, h3⟩ := h
  have hz := shown_le p h2
  have go : ∀ m, bRepr [d] m = .ok (.str (PyData.shown p)) m := fun m => by
    unfold bRepr
    have : toP m 60 d = some p := h1 m 40
    simp only [this]
    rw [if_pos ⟨psm_showable p h2, size_le (by omega)⟩]
  exact ⟨_, go m, go m'⟩
open Builtin.Str in
theorem fold_le (q : Nat) : ∀ (l : List Nat) (acc : Array Nat), (∀ c ∈ l, (reprChar q c).length ≤ 2) → (l.foldl (fun out c => out ++ (reprChar q c).toArray) acc).size ≤ acc.size + 2 * l.length
  | [], acc, _ => by simp
  | c :: l, acc, h => by
    rw [List.foldl_cons]
    have h1 := fold_le q l (acc ++ (reprChar q c).toArray) fun d hd => h d (List.mem_cons_of_mem _ hd)
    have h2 := h c List.mem_cons_self
    have e : (acc ++ (reprChar q c).toArray).size = acc.size + (reprChar q c).length := by simp
    rw [e] at h1
    rw [List.length_cons]
    omega
open Builtin.Str in
theorem repr_le {L : List Nat} (hL : (L.all fun c => decide ((reprChar 39 c).length ≤ 2) && decide ((reprChar 34 c).length ≤ 2)) = true) {x : Str} (hx : ∀ c ∈ x.cps.toList, c ∈ L) : (reprText x).length ≤ 2 + 2 * x.length := by
  have hq : reprQuote x = 34 ∨ reprQuote x = 39 := by
    unfold reprQuote
    split
    · exact .inl rfl
    · exact .inr rfl
  have hc : ∀ c ∈ x.cps.toList, (reprChar (reprQuote x) c).length ≤ 2 := fun c h => by
    have := List.all_eq_true.mp hL c (hx c h)
    rw [Bool.and_eq_true, decide_eq_true_eq, decide_eq_true_eq] at this
    rcases hq with e | e <;> rw [e]
    · exact this.2
    · exact this.1
  have h1 := fold_le (reprQuote x) x.cps.toList #[reprQuote x] hc
  have e1 : (reprText x).length = ((x.cps.foldl (fun out c => out ++ (reprChar (reprQuote x) c).toArray) #[reprQuote x]).push (reprQuote x)).size := rfl
  rw [e1, Array.size_push, ← Array.foldl_toList]
  have e2 : x.cps.toList.length = x.length := by simp [Str.length]
  have e3 : (#[reprQuote x] : Array Nat).size = 1 := rfl
  omega
end Mir

/-! exceptions made as values, by place or by keywords -/
namespace Mir
open PySem PySem.Spec PyProof.Rows L2
section
variable {X : Cx} {pins : List (Addr × Obj)} {σ : SL} {H : Hp} {s : Shared}
/-- an exception that lies there is tracked from now on -/
theorem inv_track {a : Addr} {oe : Obj} {vs : Array Value} {cls : Value} {d : Option Addr} (J : Inv X pins σ H s) (ea : s.heap.get? a = some oe) (zc : Zc cls d oe) (dv : oe.data = .fields vs) (na : H a = none) (nL : a ≠ X.env.locals)
    (nS : X.s_0.heap.get? a = none) (nP : ∀ p ∈ X.pn ++ pins, p.1 ≠ a) : Inv X pins σ (upd H a (ExH cls d a)) s := by
  refine ⟨J.ok, J.os, J.bare, ⟨J.base.keep, J.base.slot, fun b o eb nb xb => ?_, J.base.there, fun b ys eb => ?_, fun b o v eb => ?_, fun b ts eb => ?_⟩, J.loc, J.cell, ?_, fun y c ec => ?_, fun p hp => ?_, fun b v eb => ?_, J.len⟩
  · have ne : b ≠ a := fun z => by rw [z, nS] at eb; cases eb
    rw [upd_ne ne]
    exact J.base.free b o eb nb xb
  · have q := J.base.tups b ys eb
    rw [upd_ne (ne_of_none q na)]; exact q
  · have q := J.base.frzs b o v eb
    rw [upd_ne (ne_of_none q na)]; exact q
  · obtain ⟨mo, q⟩ := J.base.tbls b ts eb
    exact ⟨mo, by rw [upd_ne (ne_of_none q na)]; exact q⟩
  · show upd H a _ X.env.locals = none
    rw [upd_ne nL.symm]; exact J.free
  · obtain ⟨v, o, z1, z2⟩ := J.cell y c ec
    have ne : c ≠ a := fun z => by
      rw [z, ea] at z1
      cases z1
      rw [dv] at z2
      cases z2
    rw [upd_ne ne]; exact J.freeC y c ec
  · obtain ⟨q1, q2, q3⟩ := J.pin p hp
    exact ⟨q1, by rw [upd_ne (nP p hp)]; exact q2, q3⟩
  · by_cases hb : b = a
    · subst hb
      rw [upd_same] at eb
      cases eb
      exact exH_ok ea zc dv
    · rw [upd_ne hb] at eb
      exact (J.hok b v eb).stay (fun c w _ q => q) (fun c q => by rw [upd_ne (ne_of_none q na)]; exact q) fun c zs q => by rw [upd_ne (ne_of_none q na)]; exact q
theorem ep_made {Q : XK} {u : Value} {s' : Shared} {R : VK} (hx : X.ex = []) (M : MkP X pins σ Q u s') (hq : ∀ cls d H', Q cls d H' → ∀ a, H' a = none → R (.ref a) (upd H' a (ExH cls d a))) : EP X pins σ R u s' := by
  obtain ⟨a, oe, vs, sI, H', cls, d, rfl, J, k, nI, ea, zc, dv, _, na, os, ag, _, q⟩ := M
  have J' : Inv X pins σ H' s' := J.landed (B := sI.heap) (fun b o e _ => e) k (fun b o e _ => ⟨o.slots, k b o e⟩) os ag
  have nL : a ≠ X.env.locals := fun z => by
    obtain ⟨m, ⟨o, es, ep, e, _⟩, _⟩ := J.loc
    rw [← z, nI] at e
    cases e
  have nS : X.s_0.heap.get? a = none := by
    cases e : X.s_0.heap.get? a with
    | none => rfl
    | some o =>
      obtain ⟨o', q⟩ := J.base.there a o e (by rw [hx]; simp)
      rw [nI] at q
      cases q
  have nP : ∀ p ∈ X.pn ++ pins, p.1 ≠ a := fun p hp z => by
    have q := (J.pin p hp).1
    rw [z, nI] at q
    cases q
  exact ⟨.ref a, _, inv_track J' ea zc dv na nL nS nP, rfl, hq cls d H' q a na⟩
end
theorem pe_made {X : Cx} {e : Expr} {t : SL → Hp → XK → Prop} (hx : X.ex = []) (he : PMk X e t) : PE X e (fun σ H Q => t σ H fun cls d H' => ∀ a, H' a = none → Q (.ref a) (upd H' a (ExH cls d a))) :=
  ⟨fun pins s σ H Q I h => wpAny_mono (he pins s σ H _ I h) (fun u s' M => ep_made hx M fun cls d H' q => q) fun _ _ z => z⟩
/-! ### a call by keywords -/
section
variable {M : Model} {A : Around} {Er : Value → Shared → Prop} {hp : Heap} {gs : Array GenState} {dw : Drawn} {tk : Nat} {oz : OsState}
variable {nm q : Str} {C N : Addr} {bs bm bmB : List Value} {hdct : Bool} {sn : List Str} {sub : List Value} {ab : Bool} {col : Option Bool} {dd : Option Addr} {k0 k1 k2 k3 k5 : Option Value} {B newId initId : String}
theorem kw_check_new (FB : ExcBaseFacts B newId initId bmB) (hT : ∀ Y : String, bm.contains (.type Y) = bmB.contains (.type Y)) {us : List Value} {kw : List (Str × Value)} {Q : Unit → Shared → Prop}
    (gC : hp.get? C = some (excClassObj nm q C N bs bm hdct sn sub ab col dd k0 k1 k2 k3 k5 newId)) (fin : Q () ⟨hp, gs, dw, tk, oz⟩) : wpAny M A (checkBuiltinCall newId ⟨.ref C :: us, kw⟩) Q Er ⟨hp, gs, dw, tk, oz⟩ := by
  have isB : (Value.ref C :: bm).contains (.type B) = true := by rw [List.contains_cons, hT, FB.hasB, Bool.or_true]
  have noS := FB.noStar
  simp only [checkBuiltinCall, FB.newKind, FB.newSplit, FB.newRow]
  repeat (first | refine wpAny_loadPart_at gC ?_ | (refine wpAny_isSubtype_exc gC ?_; rw [isB]) | refine wpAny_staticBase_exc gC ?_ | refine wpAny_madeBy_exc gC ?_ | simp only [bne_self_eq_false, Bool.false_eq_true, if_false] | wp_step)
  exact fin
end
section
variable {prog : Program} {w : World} {A : Around} {Er : Value → Shared → Prop} {R : Result → Shared → Prop} {hp : Heap} {gs : Array GenState} {dw : Drawn} {tk : Nat} {oz : OsState}
variable {nm q : Str} {C N : Addr} {bs bm bmB : List Value} {hdct : Bool} {sn : List Str} {sub : List Value} {ab : Bool} {col : Option Bool} {dd : Option Addr} {k0 k1 k2 k3 k5 : Option Value} {B newId initId : String}
theorem kw_new (FB : ExcBaseFacts B newId initId bmB) (hT : ∀ Y : String, bm.contains (.type Y) = bmB.contains (.type Y)) {us : List Value} {kw : List (Str × Value)} (gC : hp.get? C = some (excClassObj nm q C N bs bm hdct sn sub ab col dd k0 k1 k2 k3 k5 newId))
    (fin : R (.ok (.ret (.ref (hp.objs.size + 1)))) ⟨(hp.push (PySem.W.kdv_tup us)).push (PySem.HandSPX.excO C hp.objs.size), gs, dw, tk, oz⟩) (few : us.length ≤ sizeLine) :
    codeAny (model prog w) A (.builtin newId ⟨.ref C :: us, kw⟩) R ⟨hp, gs, dw, tk, oz⟩ := by
  have en := FB.ends
  have isB : (Value.ref C :: bm).contains (.type B) = true := by rw [List.contains_cons, hT, FB.hasB, Bool.or_true]
  have isA : (Value.ref C :: bm).contains (.type "AttributeError") = false := by rw [List.contains_cons, hT, FB.noAttr]; rfl
  have isN : (Value.ref C :: bm).contains (.type "NameError") = false := by rw [List.contains_cons, hT, FB.noName]; rfl
  refine codeAny_builtinAt FB.entry ?_
  unfold Builtin.«BaseException.__new__»
  refine PySem.wpAt_bind ?_
  show PySem.wpAt _ _ _ (stack >>= _) _ _ _
  refine PySem.wpAt_bind (PySem.wpAt_stack fun p below => PySem.wpAt_of_wpAny ?_)
  wp_walk
  refine PySem.wpAt_of_wpAny ?_
  rw [FB.owner]
  repeat (first | with_reducible refine wpAny_madeHere_exc FB.canon gC ?_ | with_reducible refine wpAny_loadPart_at gC ?_ | (with_reducible refine wpAny_isSubtype_exc gC ?_; first | rw [isB] | rw [isA] | rw [isN]) | wp_step)
  show R _ _
  rw [Heap.size_push]
  exact fin
theorem kw_type_call (FB : ExcBaseFacts B newId initId bmB) (hT : ∀ Y : String, bm.contains (.type Y) = bmB.contains (.type Y)) {us : List Value} {kw : List (Str × Value)} {fI : Addr} {Q : PySem.Fin → Shared → Prop}
    (gC : hp.get? C = some (excClassObj nm q C N bs bm hdct sn sub ab col dd k0 k1 k2 k3 k5 newId))
    (li : PySem.W.Looks (model prog w) hp (typeLookup (.ref C) "__init__") (some (.ref fI))) (lb : ∀ self, PySem.W.Looks (model prog w) hp (bindSpecial (.ref fI) self) (.ref fI, [self])) (few : us.length ≤ sizeLine)
    (fin : codeAny (model prog w) A (.call (.ref fI) ⟨.ref (hp.objs.size + 1) :: us, kw⟩)
      (fun r s' => match r with | .ok (.ret v) => v = .none ∧ Q (.done (.ret (.ref (hp.objs.size + 1)))) s' | .ok _ => False | .error e => Er e s')
      ⟨(hp.push (PySem.W.kdv_tup us)).push (PySem.HandSPX.excO C hp.objs.size), gs, dw, tk, oz⟩) :
    wpAny (model prog w) A (Builtin.«type.__call__» ⟨.ref C :: us, kw⟩) Q Er ⟨hp, gs, dw, tk, oz⟩ := by
  repeat (first | with_reducible refine wpAny_loadPart_at gC ?_ | with_reducible refine wpAny_madeBy_exc gC ?_ | wp_step)
  refine codeAny_call_builtin_code (Code.quiet_builtin _ FB.quiet) (kw_check_new FB hT gC ?_)
  refine kw_new FB hT gC ?_ few
  show wpAny _ _ _ _ _ _
  have up : ∀ b o, hp.get? b = some o → ((hp.push (PySem.W.kdv_tup us)).push (PySem.HandSPX.excO C hp.objs.size)).get? b = some o := fun b o e => Heap.get?_push_of_some _ (Heap.get?_push_of_some _ e)
  have gC1 := up _ _ gC
  have gx : ((hp.push (PySem.W.kdv_tup us)).push (PySem.HandSPX.excO C hp.objs.size)).get? (hp.objs.size + 1) = some (PySem.HandSPX.excO C hp.objs.size) := by heap_get
  have isC : (Value.ref C :: bm).contains (.ref C) = true := by simp
  have li1 := li.keeps up
  have lb1 := (lb (.ref (hp.objs.size + 1))).keeps up
  unfold isInstance
  repeat (first | with_reducible refine wpAny_loadPart_at gx ?_ | (with_reducible refine wpAny_isSubtype_exc gC1 ?_; rw [isC]) | wp_step)
  show wpAny _ _ (typeLookup (.ref C) _) _ _ _
  refine li1.at ?_
  refine wpAny_holding (wpAny_bind (lb1.at ?_))
  refine wpAny_bind (wpAny_call (codeAny_mono fin fun r s' z => ?_))
  rcases r with e | (v | _ | _ | _) <;> first | exact z | exact z.elim | skip
  obtain ⟨rfl, z⟩ := z
  first
    | exact wpAny_pure (wpAny_pure z)
    | (wp_walk; exact z)
theorem kw_call (FB : ExcBaseFacts B newId initId bmB) (hT : ∀ Y : String, bm.contains (.type Y) = bmB.contains (.type Y)) {us : List Value} {kw : List (Str × Value)} {fI : Addr}
    (gC : hp.get? C = some (excClassObj nm q C N bs bm hdct sn sub ab col dd k0 k1 k2 k3 k5 newId))
    (li : PySem.W.Looks (model prog w) hp (typeLookup (.ref C) "__init__") (some (.ref fI))) (lb : ∀ self, PySem.W.Looks (model prog w) hp (bindSpecial (.ref fI) self) (.ref fI, [self])) (few : us.length ≤ sizeLine)
    (fin : codeAny (model prog w) (A.under (.builtin "type.__call__" ⟨.ref C :: us, kw⟩)) (.call (.ref fI) ⟨.ref (hp.objs.size + 1) :: us, kw⟩) (PySem.W.InitBack (hp.objs.size + 1) R)
      ⟨(hp.push (PySem.W.kdv_tup us)).push (PySem.HandSPX.excO C hp.objs.size), gs, dw, tk, oz⟩) :
    codeAny (model prog w) A (.call (.ref C) ⟨us, kw⟩) R ⟨hp, gs, dw, tk, oz⟩ := by
  have lk := PySem.tc_lookup
  have bd := PySem.tc_bind (.ref C)
  have ty : (⟨hp, gs, dw, tk, oz⟩ : Shared).TypeIs (.ref C) "type" := ⟨_, gC, rfl⟩
  refine codeAny_of_tree ?_
  show wpAny _ _ (callAny (.ref C) _) _ _ _
  repeat (any_goals (first | assumption | with_reducible refine wpAny_loadPart_at gC ?_ | wp_step))
  refine ⟨rfl, ?_⟩
  refine codeAny_call_builtin_at (Code.quiet_builtin _ (by decide +kernel)) entry_typeCall (wpAny_check_type_call_sub gC (kw_type_call FB hT gC li lb few ?_))
  refine codeAny_mono fin fun r s' z => ?_
  rcases r with e | (v | _ | _ | _) <;> exact z
end
/-! ### readings and rules -/
/-- C(k = v, ..), C's own __init__ keeping sp -/
def tMkW (C : Addr) (n : Nat) (sp : Sp) (gV : List V → List V → List V) (tk : TA) : SL → Hp → XK → Prop := fun σ H Q => tk σ H fun zs H1 => zs.length = n ∧ ∀ a, H1 a = none → sp (gV [.ref a] zs) (upd H1 a (exo a C none))
  (fun v H2 => v = .non ∧ ∃ (d : Addr) (gs : List (Str × V)), H2 a = some (exo a C (some d)) ∧ H2 d = some (exd d gs) ∧ H1 d = none ∧ Q (.ref C) (some d) (upd (del H2 a) d (.xd gs))) (fun _ _ _ => False)
section
variable {X : Cx} {p pos : Pos} {B nw ini : String} {tl : List Value} {nm q : Str} {C N : Addr} {bs bm : List Value} {sn : List Str} {sub : List Value} {ab : Bool} {col : Option Bool} {dd : Option Addr} {k0 k1 k2 k3 k5 : Option Value}
theorem pmk_kw {CX : CXT} {x : Str} {fI : Addr} {k : Nat} {fd : FuncData} {ps ks : List Str} {sp : Sp} {g : List Value → List Value → List Value} {gV : List V → List V → List V} {kws : List Keyword} {tk : TA}
    (FB : ExcBaseFacts B nw ini tl) (gC : X.K.lookup C = some (excClassObj nm q C N bs bm true sn sub ab col dd k0 k1 k2 k3 k5 nw)) (hT : ∀ Y : String, bm.contains (.type Y) = tl.contains (.type Y))
    (sC : PySem.W.subIn X.K (.ref C) (.type "BaseException") = some true) (tC : PySem.W.typeIn X.K (.ref C) = some (.type "type")) (kC : PySem.W.keepIn X.K (.ref C) = true)
    (iC : PySem.W.findIn X.K (.ref C) "__init__" = some (some (.ref fI))) (tI : PySem.W.typeIn X.K (.ref fI) = some (.type "function")) (F1 : FnOk X.prog X.w X.K X.mg X.base CX k fI fd ps sp) (hr : Room (k + 1) X.A)
    (hb : KBn X.K fd ps 1 ks g gV) (hx : Passes CX X (fun _ _ _ => False)) (hg : Gl X x) (hm : X.mg x = some (.ref C)) (hkw : PK X kws tk)
    (hall : (backToKw pos (keywordEach kws X.env)).all (·.1.isSome) = true := by rfl) (hks : (backToKw pos (keywordEach kws X.env)).filterMap (·.1) = ks := by rfl) (hdb : (x == ("__debug__" : Str)) = false := by decide)
    (hpl : ((backTo pos (starEach [] X.env)).any (·.1) || (backToKw pos (keywordEach kws X.env)).any (·.1.isNone)) = false := by rfl) : PMk X (.Call (.Name x p) [] kws pos) (tMkW C ks.length sp gV tk) := by
  intro pins s σ H Q I h
  refine wpAny_Call_Name_kw (ld_glob I hg hm ?_ hdb)
  refine PySem.W.callWith_KW0 (h₀ := X.base) I.ok.mod.kin kC hall ?_ hpl
  refine thn (hkw.run pos pins s σ H _ I h) fun ws s1 ⟨zs, H1, I1, rz, lz, q1⟩ => ⟨I1.kIn, ?_⟩
  rw [hks]
  show wpAny _ _ (call (.ref C) [] (ks.zip ws)) _ _ _
  obtain ⟨hp, gs, dr, tk0, os⟩ := s1
  have up : hp.objs.size ≤ hp.objs.size + 1 := Nat.le_succ _
  have fr := I1.hok.fresh up
  have q2 := q1 (hp.objs.size + 1) fr
  have keep : ∀ b o, hp.get? b = some o → ((hp.push (PySem.W.kdv_tup [])).push (PySem.HandSPX.excO C hp.objs.size)).get? b = some o := fun b o e => Heap.get?_push_of_some _ (Heap.get?_push_of_some _ e)
  have gx : ((hp.push (PySem.W.kdv_tup [])).push (PySem.HandSPX.excO C hp.objs.size)).get? (hp.objs.size + 1) = some (PySem.HandSPX.excO C hp.objs.size) := by heap_get
  have I2 := I1.laid (t' := tk0) (a := hp.objs.size + 1) (o := exo (hp.objs.size + 1) C none) (h' := (hp.push (PySem.W.kdv_tup [])).push (PySem.HandSPX.excO C hp.objs.size)) keep up (exo_ok gx)
  have r0 : Vals [V.ref (hp.objs.size + 1)] [Value.ref (hp.objs.size + 1)] := .cons rfl .nil
  have r2 := hb.rel r0 rz
  have lw : ws.length = ks.length := rz.length.symm.trans lz
  refine wpAny_call (kw_call FB hT (I1.kIn _ _ gC) (PySem.W.looks_findIn I1.kIn iC) (fun self => PySem.W.bind_fn I1.kIn self tI) (Nat.zero_le _)
    (codeAny_mono (F1.run _ X.stack _ _ ⟨[Value.ref (hp.objs.size + 1)], ks.zip ws⟩ (g [Value.ref (hp.objs.size + 1)] ws) _ _ (fun _ _ _ => False) (hr.make C [] (ks.zip ws)) (I2.env0.make C [] (ks.zip ws)) (hb.to _ _ ws I2.kIn rfl lw) r2 q2) fun r s' w => ?_))
  cases r with
  | error er => exact hx pins σ _ _ er s' I2 w
  | ok fl =>
    cases fl with
    | ret u =>
      obtain ⟨v, H2, os2, bare2, un2, hok2, rv, ev, d, fs, ea, ed, hd1, q3⟩ := w
      subst ev
      obtain ⟨h2, g2, d2, t2, os'⟩ := s'
      exact ⟨rv, mk_end (raises_own sC tC) I1 up keep un2 hok2 os2 bare2 ea ed hd1 q3⟩
    | next => exact False.elim w
    | brk => exact False.elim w
    | cont => exact False.elim w
/-- C(), C without own __init__ -/
theorem pmk_own0 {x : Str} (FB : ExcBaseFacts B nw ini tl) (qC : PySem.W.excIn X.K C tl nw = true) (gC : X.mg x = some (.ref C)) (kC : PySem.W.keepIn X.K (.ref C) = true) (r : Raises X (.ref C)) (hg : Gl X x)
    (hdb : (x == ("__debug__" : Str)) = false := by decide) : PMk X (.Call (.Name x p) [] [] pos) (fun _ H Q => Q (.ref C) none H) := by
  intro pins s σ H Q I h
  refine wpAny_Call_Name_kw (ld_glob I hg gC ?_ hdb)
  refine PySem.W.callWith_K0 I.kIn kC ?_
  show wpAny _ _ (call (.ref C) []) _ _ _
  obtain ⟨bm, N, nm, qn, bs, hdct, sn, sub, ab, col, dd, k0, k1, k2, k3, k5, mN, hC, hN, hni, T⟩ := exc_obj I.kIn qC
  exact wpAny_call_exc_subT FB T hC hN hni (fun h' e hm => mk_of I hm r h (I.hok.gone hm.new)) (Nat.zero_le _)
end
/-! ### mirrors -/
def mMkE (x : Str) (fl : List Str) (a : AM) : EM := fun η m => (a η m).bind fun ds m1 => if ds.length = fl.length then .ok (.ref m1.length) (m1 ++ [.exc x (fl.zip ds).reverse]) else .stk
def mMkK (x : Str) (fl : List Str) (n : Nat) (ix : List Nat) (a : AM) : EM := fun η m => (a η m).bind fun ds m1 => if ds.length = n ∧ (arr ix ds).length = fl.length then .ok (.ref m1.length) (m1 ++ [.exc x (fl.zip (arr ix ds)).reverse]) else .stk
def mMk0 (x : Str) : EM := fun _ m => .ok (.ref m.length) (m ++ [.exc x []])
/-- made by keywords: what is asked of the class -/
structure XKw (P : Program) (w : World) (K : PySem.W.Frag) (mg : Str → Option Value) (base : Heap) (x : Str) (fl ks : List Str) (ix : List Nat) : Prop where
  ex : ∃ (B nw ini : String) (tl : List Value) (nm q : Str) (C N : Addr) (bs bm : List Value) (sn : List Str) (sub : List Value) (ab : Bool) (col : Option Bool) (dd : Option Addr) (k0 k1 k2 k3 k5 : Option Value) (fI : Addr) (fd : FuncData) (ps : List Str) (sp : Sp) (g : List Value → List Value → List Value) (gV : List V → List V → List V),
    ExcBaseFacts B nw ini tl ∧ K.lookup C = some (excClassObj nm q C N bs bm true sn sub ab col dd k0 k1 k2 k3 k5 nw) ∧ (∀ Y : String, bm.contains (.type Y) = tl.contains (.type Y)) ∧ PySem.W.subIn K (.ref C) (.type "BaseException") = some true ∧ PySem.W.typeIn K (.ref C) = some (.type "type") ∧ PySem.W.keepIn K (.ref C) = true ∧
    PySem.W.findIn K (.ref C) "__init__" = some (some (.ref fI)) ∧ PySem.W.typeIn K (.ref fI) = some (.type "function") ∧ FnOk P w K mg base CX0 1 fI fd ps sp ∧ KBn K fd ps 1 ks g gV ∧ mg x = some (.ref C) ∧ (∀ a zs, zs.length = ks.length → gV [a] zs = a :: arr ix zs) ∧
    ∀ (a : Addr) (vs : List V) (H : Hp) (Q : VK) (E : XK), vs.length = fl.length → H a = some (exo a C none) →
      (∀ dx, H dx = none → dx ≠ a → ∀ H2, H2 a = some (exo a C (some dx)) → H2 dx = some (exd dx (fl.zip vs).reverse) → (∀ b, b ≠ a → b ≠ dx → H2 b = H b) → Q .non H2) → sp (.ref a :: vs) H Q E
/-- without own __init__ -/
structure XM0 (K : PySem.W.Frag) (mg : Str → Option Value) (x : Str) : Prop where
  ex : ∃ (B nw ini : String) (tl : List Value) (C : Addr), ExcBaseFacts B nw ini tl ∧ PySem.W.excIn K C tl nw = true ∧ mg x = some (.ref C) ∧ PySem.W.keepIn K (.ref C) = true ∧ PySem.W.subIn K (.ref C) (.type "BaseException") = some true ∧ PySem.W.typeIn K (.ref C) = some (.type "type")
section
variable {P : Program} {w : World} {K : PySem.W.Frag} {mg : Str → Option Value} {base : Heap} {x : Str} {C fI : Addr} {fd : FuncData} {ps ks : List Str} {ix ix0 : List Nat}
theorem arr_first {a : V} {zs : List V} (h : ix0 = 0 :: ix.map (· + 1)) : arr ix0 ([a] ++ zs ++ []) = a :: arr ix zs := by
  subst h
  unfold arr
  rw [List.append_nil, List.filterMap_cons, List.filterMap_map]
  rfl
theorem xkw1 {f1 : Str} (hm : mg x = some (.ref C)) (T : OexC K C) (hi : PySem.W.findIn K (.ref C) "__init__" = some (some (.ref fI))) (ht : PySem.W.typeIn K (.ref fI) = some (.type "function")) (F : FnOk P w K mg base CX0 (0 + 1) fI fd ps (spI1 K f1))
    (B : KBn K fd ps 1 ks (fun us ws => arr ix0 (us ++ ws ++ [])) (fun vs zs => arr ix0 (vs ++ zs ++ []))) (h0 : ix0 = 0 :: ix.map (· + 1)) (hno : PySem.W.findIn K (.ref C) f1 = some none) : XKw P w K mg base x [f1] ks ix := by
  obtain ⟨nm, q, N, bs, bm, sn, sub, ab, col, dd, k0, k1, k2, k3, k5, gC, hbm⟩ := id T.cls
  refine ⟨_, _, _, _, nm, q, C, N, bs, bm, sn, sub, ab, col, dd, k0, k1, k2, k3, k5, fI, fd, ps, _, _, _, PySem.F.excBase_ValueError, gC, (fun Y => PySem.HandSPX.refsVE_contains Y bm hbm), T.exC, T.tyC, T.kC, hi, ht, F, B, hm, fun a zs _ => arr_first h0, fun a vs H Q E hl ha q => ?_⟩
  match vs, hl with
  | [y], _ => exact ⟨a, C, y, rfl, T, hno, ha, fun dx n1 n2 => q dx n1 n2 _ upd_same (by rw [upd_ne n2, upd_same]; rfl) fun b h1 h2 => by rw [upd_ne h1, upd_ne h2]⟩
theorem xkw2 {f1 f2 : Str} (hm : mg x = some (.ref C)) (T : OexC K C) (hi : PySem.W.findIn K (.ref C) "__init__" = some (some (.ref fI))) (ht : PySem.W.typeIn K (.ref fI) = some (.type "function")) (F : FnOk P w K mg base CX0 (0 + 1) fI fd ps (spI2 K f1 f2))
    (B : KBn K fd ps 1 ks (fun us ws => arr ix0 (us ++ ws ++ [])) (fun vs zs => arr ix0 (vs ++ zs ++ []))) (h0 : ix0 = 0 :: ix.map (· + 1)) (hno : PySem.W.findIn K (.ref C) f1 = some none) (hno2 : PySem.W.findIn K (.ref C) f2 = some none) : XKw P w K mg base x [f1, f2] ks ix := by
  obtain ⟨nm, q, N, bs, bm, sn, sub, ab, col, dd, k0, k1, k2, k3, k5, gC, hbm⟩ := id T.cls
  refine ⟨_, _, _, _, nm, q, C, N, bs, bm, sn, sub, ab, col, dd, k0, k1, k2, k3, k5, fI, fd, ps, _, _, _, PySem.F.excBase_ValueError, gC, (fun Y => PySem.HandSPX.refsVE_contains Y bm hbm), T.exC, T.tyC, T.kC, hi, ht, F, B, hm, fun a zs _ => arr_first h0, fun a vs H Q E hl ha q => ?_⟩
  match vs, hl with
  | [y, z], _ => exact ⟨a, C, y, z, rfl, T, hno, hno2, ha, fun dx n1 n2 => q dx n1 n2 _ (by rw [upd_ne (Ne.symm n2), upd_same]) (by rw [upd_same]; rfl) fun b h1 h2 => by rw [upd_ne h2, upd_ne h1, upd_ne h2]⟩
theorem xkwR {f1 : Str} {Bn nw ini : String} {tl : List Value} (RF : RootF Bn nw ini tl) (hm : mg x = some (.ref C)) (T : OexR K C nw tl) (hi : PySem.W.findIn K (.ref C) "__init__" = some (some (.ref fI))) (ht : PySem.W.typeIn K (.ref fI) = some (.type "function")) (F : FnOk P w K mg base CX0 (0 + 1) fI fd ps (spR1 K nw tl f1))
    (B : KBn K fd ps 1 ks (fun us ws => arr ix0 (us ++ ws ++ [])) (fun vs zs => arr ix0 (vs ++ zs ++ []))) (h0 : ix0 = 0 :: ix.map (· + 1)) (hno : PySem.W.findIn K (.ref C) f1 = some none) : XKw P w K mg base x [f1] ks ix := by
  obtain ⟨nm, q, N, bs, bm, sn, sub, ab, col, dd, k0, k1, k2, k3, k5, gC, hbm⟩ := id T.cls
  refine ⟨_, _, _, _, nm, q, C, N, bs, bm, sn, sub, ab, col, dd, k0, k1, k2, k3, k5, fI, fd, ps, _, _, _, RF.base, gC, hbm.has, T.exC, T.tyC, T.kC, hi, ht, F, B, hm, fun a zs _ => arr_first h0, fun a vs H Q E hl ha q => ?_⟩
  match vs, hl with
  | [y], _ => exact ⟨a, C, y, rfl, T, hno, ha, fun dx n1 n2 => q dx n1 n2 _ upd_same (by rw [upd_ne n2, upd_same]; rfl) fun b h1 h2 => by rw [upd_ne h1, upd_ne h2]⟩
end
section
variable {X : Cx} {E : XK} {x : Str} {fl : List Str} {p pos : Pos} {e : Expr} {es : List Expr} {ca : AM}
/-- a new cell for what was made -/
theorem made_cell {W : Wd} {H : Hp} {m : Mem} {Q : VK} {C : Addr} {o : Option Addr} {fs : List (Str × D)} (s : Sim X.K X.mg W H m) (hm : X.mg x = some (.ref C)) (hf : XFs X.K W H fs o)
    (p1 : Post X.K X.mg E (Rep X.K) W H Q (.ok (.ref m.length) (m ++ [.exc x fs]))) : ∀ a, H a = none → Q (.ref a) (upd H a (ExH (.ref C) o a)) := fun a na => by
  have ex : Ext W H (W.add a) (upd H a (ExH (.ref C) o a)) := Ext.alloc na (s.ninz na)
  refine p1 (.ref a) (W.add a) _ ex (s.alloc na ⟨.ref C, o, hm, upd_same, hf.ext ex⟩) (rep_ref ?_)
  show (W.i ++ [a])[m.length]? = some a
  rw [← s.len, List.getElem?_append_right (Nat.le_refl _), Nat.sub_self]
  rfl
theorem made_del {H1 H2 : Hp} {a dx C : Addr} {gs : List (Str × V)} (na : H1 a = none) (q3 : ∀ b, b ≠ a → b ≠ dx → H2 b = upd H1 a (exo a C none) b) : upd (del H2 a) dx (.xd gs) = upd H1 dx (.xd gs) := by
  funext b
  by_cases hb : b = dx
  · rw [hb, upd_same, upd_same]
  · rw [upd_ne hb, upd_ne hb]
    by_cases h2 : b = a
    · rw [h2, del_same, na]
    · rw [del_ne h2, q3 b h2 hb, upd_ne h2]
theorem made_new {W : Wd} {H1 : Hp} {m : Mem} {Q : VK} {C dx : Addr} {ds : List D} {vs : List V} (s : Sim X.K X.mg W H1 m) (hm : X.mg x = some (.ref C)) (nd : H1 dx = none) (r : Reps X.K W H1 ds vs) (hl : ds.length = fl.length)
    (p1 : Post X.K X.mg E (Rep X.K) W H1 Q (.ok (.ref m.length) (m ++ [.exc x (fl.zip ds).reverse]))) : ∀ a, upd H1 dx (.xd (fl.zip vs).reverse) a = none → Q (.ref a) (upd (upd H1 dx (.xd (fl.zip vs).reverse)) a (ExH (.ref C) (some dx) a)) := by
  have ex : Ext W H1 W (upd H1 dx (.xd (fl.zip vs).reverse)) := Ext.fresh nd
  obtain ⟨z1, z2⟩ := reps_zip r hl
  exact made_cell (s.fresh nd) hm (.inr ⟨dx, _, rfl, ⟨upd_same, s.nin nd, s.ninz nd⟩, z1, z2.ext ex⟩) (p1.ext ex)
theorem me_mkE (M : XMk X.prog X.w X.K X.mg X.base x fl) (hx : X.ex = []) (hr : Room 2 X.A) (hg : Gl X x) (hf : fl.length ≤ 100) (ha : MA X E (e :: es) ca)
    (hdb : (x == ("__debug__" : Str)) = false := by decide) (he : starEach (e :: es) X.env = (false, eval e X.env) :: starEach es X.env := by rfl) (hpl : (backTo pos (starEach es X.env)).any (·.1) = false := by rfl) :
    MEx X E (.Call (.Name x p) (e :: es) [] pos) (mMkE x fl ca) := by
  obtain ⟨C, fI, fd, ps, sp, hm, T, hi, ht, F, B, hsp⟩ := M.ex
  refine (pe_made hx (pmk_oex (dvs := []) T hi ht F hr B .nil pass0 hg hm ha hdb he hpl)).imp fun σ H Q ⟨W, η, m, s, n, p⟩ => ?_
  refine ⟨W, η, m, s, n, (Post.bind (Rl := Reps X.K) p).imp fun vs H1 ⟨W1, ds, m1, e1, s1, r1, p1⟩ => ?_⟩
  have hv := r1.length
  split at p1
  · rename_i hl
    refine ⟨by omega, fun a na => ?_⟩
    rw [List.append_nil]
    refine hsp a vs _ _ _ (by omega) upd_same fun dx n1 n2 H2 q1 q2 q3 => ?_
    have nd : H1 dx = none := by rw [upd_ne n2] at n1; exact n1
    refine ⟨rfl, dx, _, q1, q2, nd, ?_⟩
    rw [made_del na q3]
    exact made_new s1 hm nd r1 hl p1
  · exact p1.elim
theorem me_mkER {f1 : Str} (M : XMkR X.prog X.w X.K X.mg X.base x f1) (hx : X.ex = []) (hr : Room 2 X.A) (hg : Gl X x) (ha : MA X E (e :: es) ca)
    (hdb : (x == ("__debug__" : Str)) = false := by decide) (he : starEach (e :: es) X.env = (false, eval e X.env) :: starEach es X.env := by rfl) (hpl : (backTo pos (starEach es X.env)).any (·.1) = false := by rfl) :
    MEx X E (.Call (.Name x p) (e :: es) [] pos) (mMkE x [f1] ca) := by
  obtain ⟨B, nw, ini, tl, C, fI, fd, ps, RF, hm, T, hi, ht, F, Bd, hno⟩ := M.ex
  refine (pe_made hx (pmk_oexR (dvs := []) RF T hi ht F hr Bd .nil pass0 hg hm ha hdb he hpl)).imp fun σ H Q ⟨W, η, m, s, n, p⟩ => ?_
  refine ⟨W, η, m, s, n, (Post.bind (Rl := Reps X.K) p).imp fun vs H1 ⟨W1, ds, m1, e1, s1, r1, p1⟩ => ?_⟩
  have hv := r1.length
  split at p1
  · rename_i hl
    have hl1 : ds.length = 1 := hl
    refine ⟨by omega, fun a na => ?_⟩
    rw [List.append_nil]
    obtain ⟨y, rfl⟩ : ∃ y, vs = [y] := List.length_eq_one_iff.mp (by omega)
    refine ⟨a, C, y, rfl, T, hno, upd_same, fun dx n1 n2 => ?_⟩
    have nd : H1 dx = none := by rw [upd_ne n2] at n1; exact n1
    refine ⟨rfl, dx, [(f1, y)], upd_same, by rw [upd_ne n2, upd_same], nd, ?_⟩
    rw [made_del na fun b b1 b2 => by rw [upd_ne b1, upd_ne b2]]
    exact made_new s1 hm nd r1 hl p1
  · exact p1.elim
theorem me_mkK {ks : List Str} {ix : List Nat} {kws : List Keyword} (M : XKw X.prog X.w X.K X.mg X.base x fl ks ix) (hx : X.ex = []) (hr : Room 2 X.A) (hg : Gl X x) (hkw : MK X E kws ca)
    (hall : (backToKw pos (keywordEach kws X.env)).all (·.1.isSome) = true := by rfl) (hks : (backToKw pos (keywordEach kws X.env)).filterMap (·.1) = ks := by rfl) (hdb : (x == ("__debug__" : Str)) = false := by decide)
    (hpl : ((backTo pos (starEach [] X.env)).any (·.1) || (backToKw pos (keywordEach kws X.env)).any (·.1.isNone)) = false := by rfl) :
    MEx X E (.Call (.Name x p) [] kws pos) (mMkK x fl ks.length ix ca) := by
  obtain ⟨B, nw, ini, tl, nm, q, C, N, bs, bm, sn, sub, ab, col, dd, k0, k1, k2, k3, k5, fI, fd, ps, sp, g, gV, FB, gC, hT, sC, tC, kC, iC, tI, F, hb, hm, hgv, hsp⟩ := M.ex
  refine (pe_made hx (pmk_kw FB gC hT sC tC kC iC tI F hr hb pass0 hg hm hkw hall hks hdb hpl)).imp fun σ H Q ⟨W, η, m, s, n, p⟩ => ?_
  refine ⟨W, η, m, s, n, (Post.bind (Rl := Reps X.K) p).imp fun zs H1 ⟨W1, ds, m1, e1, s1, r1, p1⟩ => ?_⟩
  have hv := r1.length
  split at p1
  · rename_i hl
    refine ⟨by omega, fun a na => ?_⟩
    have r2 := arr_reps r1 ix
    have hv2 := r2.length
    rw [hgv _ _ (by omega)]
    refine hsp a _ _ _ _ (by omega) upd_same fun dx n1 n2 H2 q1 q2 q3 => ?_
    have nd : H1 dx = none := by rw [upd_ne n2] at n1; exact n1
    refine ⟨rfl, dx, _, q1, q2, nd, ?_⟩
    rw [made_del na q3]
    exact made_new s1 hm nd r2 hl.2 p1
  · exact p1.elim
theorem me_mk0 (M : XM0 X.K X.mg x) (hx : X.ex = []) (hg : Gl X x) (hdb : (x == ("__debug__" : Str)) = false := by decide) : MEx X E (.Call (.Name x p) [] [] pos) (mMk0 x) := by
  obtain ⟨B, nw, ini, tl, C, FB, qC, hm, kC, sC, tC⟩ := M.ex
  refine (pe_made hx (pmk_own0 FB qC hm kC (raises_own sC tC) hg hdb)).imp fun σ H Q ⟨W, η, m, s, n, p⟩ => ?_
  exact made_cell s hm (.inl ⟨rfl, rfl⟩) p
@[simp] theorem ap_mkE (η : Env') (m : Mem) : mMkE x fl ca η m = (ca η m).bind fun ds m1 => if ds.length = fl.length then .ok (.ref m1.length) (m1 ++ [.exc x (fl.zip ds).reverse]) else .stk := nr rfl
@[simp] theorem ap_mkK (η : Env') (m : Mem) (n : Nat) (ix : List Nat) : mMkK x fl n ix ca η m = (ca η m).bind fun ds m1 => if ds.length = n ∧ (arr ix ds).length = fl.length then .ok (.ref m1.length) (m1 ++ [.exc x (fl.zip (arr ix ds)).reverse]) else .stk := nr rfl
@[simp] theorem ap_mk0 (η : Env') (m : Mem) : mMk0 x η m = .ok (.ref m.length) (m ++ [.exc x []]) := nr rfl
end
end Mir

/-! Mir: data that is alike. -/
namespace Mir
open PySem PySem.Spec PyProof.Rows L2
@[simp] theorem kit_int_int : kitB "int" "int" = some true := by decide +kernel
@[simp] theorem kit_int_bool : kitB "int" "bool" = some false := by decide +kernel
@[simp] theorem kit_int_str : kitB "int" "str" = some false := by decide +kernel
@[simp] theorem kit_int_tuple : kitB "int" "tuple" = some false := by decide +kernel
@[simp] theorem kit_int_list : kitB "int" "list" = some false := by decide +kernel
@[simp] theorem kit_bool_int : kitB "bool" "int" = some true := by decide +kernel
@[simp] theorem kit_bool_bool : kitB "bool" "bool" = some true := by decide +kernel
@[simp] theorem kit_bool_str : kitB "bool" "str" = some false := by decide +kernel
@[simp] theorem kit_bool_tuple : kitB "bool" "tuple" = some false := by decide +kernel
@[simp] theorem kit_bool_list : kitB "bool" "list" = some false := by decide +kernel
@[simp] theorem kit_str_int : kitB "str" "int" = some false := by decide +kernel
@[simp] theorem kit_str_bool : kitB "str" "bool" = some false := by decide +kernel
@[simp] theorem kit_str_str : kitB "str" "str" = some true := by decide +kernel
@[simp] theorem kit_str_tuple : kitB "str" "tuple" = some false := by decide +kernel
@[simp] theorem kit_str_list : kitB "str" "list" = some false := by decide +kernel
@[simp] theorem kit_tuple_int : kitB "tuple" "int" = some false := by decide +kernel
@[simp] theorem kit_tuple_bool : kitB "tuple" "bool" = some false := by decide +kernel
@[simp] theorem kit_tuple_str : kitB "tuple" "str" = some false := by decide +kernel
@[simp] theorem kit_tuple_tuple : kitB "tuple" "tuple" = some true := by decide +kernel
@[simp] theorem kit_tuple_list : kitB "tuple" "list" = some false := by decide +kernel
@[simp] theorem kit_list_int : kitB "list" "int" = some false := by decide +kernel
@[simp] theorem kit_list_bool : kitB "list" "bool" = some false := by decide +kernel
@[simp] theorem kit_list_str : kitB "list" "str" = some false := by decide +kernel
@[simp] theorem kit_list_tuple : kitB "list" "tuple" = some false := by decide +kernel
@[simp] theorem kit_list_list : kitB "list" "list" = some true := by decide +kernel
@[simp] theorem kit_NoneType_int : kitB "NoneType" "int" = some false := by decide +kernel
@[simp] theorem kit_NoneType_bool : kitB "NoneType" "bool" = some false := by decide +kernel
@[simp] theorem kit_NoneType_str : kitB "NoneType" "str" = some false := by decide +kernel
@[simp] theorem kit_NoneType_tuple : kitB "NoneType" "tuple" = some false := by decide +kernel
@[simp] theorem kit_NoneType_list : kitB "NoneType" "list" = some false := by decide +kernel
theorem strOk_S {l : List Nat} (h : ∀ c ∈ l, c < 1114112) : PyData.strOk (SX.S l) = true := by
  unfold PyData.strOk
  rw [Array.all_eq_true']
  intro c hc
  simp [SX.S] at hc
  exact decide_eq_true (h c hc)
namespace Y
end Y
end Mir

/-! Mir: what the laws' shared drawing functions tell. -/
namespace Mir
open PySem PySem.Spec PyProof.Rows L2
/-! ### texts cut -/
theorem S_append (a b : List Nat) : SX.S a ++ SX.S b = SX.S (a ++ b) := by
  show Str.mk (a.toArray ++ b.toArray) = _
  simp [SX.S]
theorem S_of (x : Str) : SX.S x.cps.toList = x := by cases x; rfl
/-! ### names -/
def letL : List Nat := [97, 98, 99, 100, 101, 102, 103, 104, 105, 106, 107, 108, 109, 110, 111, 112, 113, 114, 115, 116, 117, 118, 119, 120, 121, 122]
theorem letL_eq : letL = (List.range 26).map (· + 97) := by decide
theorem letL_mem (c : Nat) : c ∈ letL ↔ 97 ≤ c ∧ c ≤ 122 := by
  rw [letL_eq]
  simp
  constructor
  · rintro ⟨a, ha, rfl⟩; omega
  · intro h; exact ⟨c - 97, by omega, by omega⟩
theorem let_S : Str.ofString "abcdefghijklmnopqrstuvwxyz" = SX.S letL := by decide +kernel
def keptW : List Str := [Str.ofString "deeds", Str.ofString "room", Str.ofString "heap", Str.ofString "map", Str.ofString "yard"]
structure Nm (x : Str) : Prop where
  lo : 1 ≤ x.length
  hi : x.length ≤ 6
  let' : ∀ c ∈ x.cps.toList, c ∈ letL
  kept : x ∉ keptW
def ltS (a b : Str) : Prop := a.cps.toList < b.cps.toList
structure Nms (ns : List Str) : Prop where
  nm : ∀ x ∈ ns, Nm x
  up : ns.Pairwise ltS
theorem kept_len {x : Str} (h : x ∈ keptW) : 3 ≤ x.length ∧ x.length ≤ 5 := by
  simp only [keptW, List.mem_cons, List.not_mem_nil, or_false] at h
  rcases h with rfl | rfl | rfl | rfl | rfl <;> decide
theorem q_S : Str.ofString "q" = SX.S [113] := by decide +kernel
namespace Y
theorem pick_y {m : Mem} {i : Nat} {n : Int} (hf : FlowAt m i) (hn : 0 < n) (hb : n ≤ 1000000) : Tri (m__law_pick [.ref i, .int n] m) (fun d m' => ∃ k : Nat, d = .int (k : Nat) ∧ (k : Int) < n ∧ Flo m m' i) := pick_flo hf hn (by omega)
theorem pick_then {m : Mem} {i : Nat} {n : Int} {P : D → Mem → Prop} (hf : FlowAt m i) (hn : 0 < n) (hb : n ≤ 1000000) (h : ∀ (k : Nat) m', (k : Int) < n → Flo m m' i → P (.int (k : Nat)) m') : Tri (m__law_pick [.ref i, .int n] m) P :=
  (pick_y hf hn hb).mono fun d m' ⟨k, e, h1, h2⟩ => by
    rw [e]
    exact h k m' h1 h2
theorem flow_y (ns : List Int) (hl : ns.length ≤ 63) : ∃ m, m__law_flow [.scr (ns.map .int)] [] = .ok (.ref 0) m ∧ FlowAt m 0 := by
  refine ⟨[.lst [.lst (ns.map .int), .int 0, .int 0, .int 1, .int 0]], ?_, _, rfl, ns, 0, 0, 1, 0, rfl, by decide, by decide, by decide, by decide⟩
  have key : Tri (m__law_flow [.scr (ns.map .int)] []) (fun d m' => d = .ref 0 ∧ m' = [.lst [.lst (ns.map .int), .int 0, .int 0, .int 1, .int 0]]) := by
    refine tri_fn rfl ?_
    have h5 : 5 ≤ sizeLine := size_le (by decide)
    have hl2 : ns.length ≤ sizeLine := size_le (by omega)
    simp [b__law_flow, bList, seqOf, lstOf, lR, h5, hl2]
  obtain ⟨d, m', e, rfl, rfl⟩ := key.ex
  exact e
theorem atI_nat {α : Type} {l : List α} {k : Nat} {x : α} (h : l[k]? = some x) : atI l (k : Nat) = some x := by
  unfold atI ixN
  have := (List.getElem?_eq_some_iff.mp h).1
  rw [if_pos (by omega), if_pos (by omega)]
  simpa using h
theorem letL_get {k : Nat} (h : k < 26) : letL[k]? = some (k + 97) := by
  rw [letL_eq]
  simp [h]
theorem gIx_let {k : Nat} (h : k < 26) (m : Mem) : gIx (.str (SX.S letL)) (.int (k : Nat)) m = .ok (.str ⟨#[k + 97]⟩) m := gIx_str (by decide) (atI_nat (letL_get h))
theorem gIn_kept {x : Str} {neg : Bool} {m : Mem} : gIn neg (.str x) (.tup [.str (Str.ofString "deeds"), .str (Str.ofString "room"), .str (Str.ofString "heap"), .str (Str.ofString "map"), .str (Str.ofString "yard")]) m = .ok (.bl (decide (x ∈ keptW) ^^ neg)) m := gIn_tstrs (ys := keptW)
theorem rng_nat {n : Nat} (h : n ≤ 1000000) (m : Mem) : rng1R (.int (n : Nat)) m = .ok (srcLP (rngD 0 n)) m := by
  rw [rng1R_int _ _ (by omega) (by omega), Int.toNat_natCast]
/-- a text of drawn letters -/
theorem letters_draw {m : Mem} {i n : Nat} {η : Env'} {j q : Nat} (hf : FlowAt m i) (hn : n ≤ 1000) (h0 : ∀ d, (η.set j (some d))[0]? = some (some (.ref i))) (hq : ∀ d, (η.set j (some d))[q]? = some (some (.str (SX.S letL)))) :
    Tri (compD (gNm j) mYes (mOp gIx (mVar q) (mCall m__law_pick (mCons (mVar 0) (mCons (mC (.int 26)) mNil)))) η (rngD 0 n) m []) (fun acc m' => ∃ cs : List Nat, acc = cs.map (fun c => D.str ⟨#[c]⟩) ∧ cs.length = n ∧ (∀ c ∈ cs, c ∈ letL) ∧ Flo m m' i) := by
  refine (comp_draw (fun c => D.str ⟨#[c]⟩) (fun c => c ∈ letL) hf (by simp; omega) ?_).mono ?_
  · intro d m' hd hfl
    simp [h0, hq]
    refine (pick_y hfl.at (n := 26) (by decide) (by decide)).mono ?_
    rintro _ m2 ⟨k, rfl, hk, hfl2⟩
    have hk : k < 26 := by omega
    rw [gIx_let hk]
    refine ⟨k + 97, rfl, ?_, hfl.trans hfl2⟩
    rw [letL_mem]
    omega
  · rintro acc m' ⟨cs, e, hl, hP, hfl⟩
    exact ⟨cs, e, by simpa using hl, hP, hfl⟩
theorem join_letters {cs : List Nat} {m : Mem} (h : cs.length ≤ 1000) : gJoin (.str (Str.ofString "")) [.lst (cs.map fun c => D.str ⟨#[c]⟩)] m = .ok (.str (SX.S cs)) m := gJoin_chars (by omega)
theorem rngD_nat (n : Nat) : rngD 0 n = (List.range n).map fun k => D.int ((k : Nat) : Int) := by
  unfold rngD
  simp
end Y
/-! ### heaps, yards -/
structure Hea where
  s : Int
  t : List Int
  l : List Int
structure Yar where
  d : List Str
  h : List Hea
structure OkHea (n : Nat) (b : Int) (h : Hea) : Prop where
  s0 : 0 ≤ h.s
  s1 : h.s ≤ b
  tl : h.t.length = n
  ll : h.l.length = n
  t : ∀ x ∈ h.t, 0 ≤ x ∧ x ≤ b
  l : ∀ x ∈ h.l, 0 ≤ x ∧ x ≤ b
structure OkYar (y : Yar) : Prop where
  nm : Nms y.d
  few : y.d.length ≤ 5
  hp : ∀ h ∈ y.h, OkHea y.d.length 50 h
  fewh : y.h.length ≤ 12
theorem OkHea.mono {n : Nat} {b c : Int} {h : Hea} (k : OkHea n b h) (hbc : b ≤ c) : OkHea n c h :=
  ⟨k.s0, Int.le_trans k.s1 hbc, k.tl, k.ll, fun x hx => ⟨(k.t x hx).1, Int.le_trans (k.t x hx).2 hbc⟩, fun x hx => ⟨(k.l x hx).1, Int.le_trans (k.l x hx).2 hbc⟩⟩
theorem Tri.imp {α : Type} {r : R α} {P Q : α → Mem → Prop} (h : Tri r P) (k : ∀ a m, P a m → Q a m) : Tri r Q := h.mono k
namespace Y
theorem word_then {m : Mem} {i : Nat} {P : D → Mem → Prop} (hf : FlowAt m i) (h : ∀ (x : Str) m', Nm x → Flo m m' i → P (.str x) m') : Tri (m__law_word [.ref i] m) P := by
  refine tri_fn rfl ?_
  simp [b__law_word, let_S, b__law_word_s1]
  refine pick_then hf (by decide) (by decide) fun k m1 hk hfl => ?_
  have hn : 1 + (k : Int) = ((1 + k : Nat) : Int) := by simp
  simp [-rng1R_int]
  rw [hn, rng_nat (n := 1 + k) (by omega)]
  simp
  refine (letters_draw (n := 1 + k) hfl.at (by omega) (fun d => rfl) (fun d => rfl)).mono ?_
  rintro _ m2 ⟨cs, rfl, hcs, hlet, hfl2⟩
  have hfl := hfl.trans hfl2
  simp [join_letters (m := m2) (cs := cs) (by omega), b__law_word_s2, gIn_kept]
  by_cases hk : SX.S cs ∈ keptW
  · have hkl := kept_len hk
    rw [SX.S_len] at hkl
    have e1 : cutS (SX.S cs) none (some (-1)) = SX.S cs.dropLast := by
      unfold cutS
      rw [SX.S_len]
      have h1 : HT.sIx cs.length 0 none = 0 := rfl
      have h2 : HT.sIx cs.length cs.length (some (-1)) = cs.length - 1 := by
        unfold HT.sIx
        simp
        omega
      rw [h1, h2]
      show SX.S _ = _
      congr 1
      simp [List.dropLast_eq_take]
    have a1 := fun m => gAdd_str (al := false) (m := m) (x := SX.S cs.dropLast) (y := SX.S [113]) (by rw [SX.S_len, SX.S_len, List.length_dropLast, List.length_singleton]; omega)
    simp [hk, gSl_str (x := SX.S cs) (m := m2) (by rw [SX.S_len]; omega), e1, q_S, a1, b__law_word_s3]
    rw [S_append]
    refine h _ m2 ?_ hfl
    simp only [keptW, List.mem_cons, List.not_mem_nil, or_false] at hk
    have go : ∀ (w : String) (l : List Nat), Str.ofString w = SX.S l → Nm (SX.S (l.dropLast ++ [113])) → SX.S cs = Str.ofString w → Nm (SX.S (cs.dropLast ++ [113])) := fun w l e n q => by
      rw [e] at q
      rw [SX.S_inj q]
      exact n
    rcases hk with q | q | q | q | q
    · exact go "deeds" [100, 101, 101, 100, 115] (by decide +kernel) ⟨by decide, by decide, by decide, by decide +kernel⟩ q
    · exact go "room" [114, 111, 111, 109] (by decide +kernel) ⟨by decide, by decide, by decide, by decide +kernel⟩ q
    · exact go "heap" [104, 101, 97, 112] (by decide +kernel) ⟨by decide, by decide, by decide, by decide +kernel⟩ q
    · exact go "map" [109, 97, 112] (by decide +kernel) ⟨by decide, by decide, by decide, by decide +kernel⟩ q
    · exact go "yard" [121, 97, 114, 100] (by decide +kernel) ⟨by decide, by decide, by decide, by decide +kernel⟩ q
  · simp [hk, b__law_word_s3]
    exact h _ m2 ⟨by rw [SX.S_len]; omega, by rw [SX.S_len]; omega, hlet, hk⟩ hfl
end Y
end Mir

/-! Mir: yards: what can be done at a stand, where it leads. -/
namespace Mir
open PySem PySem.Spec PyProof.Rows L2
def tk (h : Hea) (k : Nat) : Int := h.t.getD k 0
def lk (h : Hea) (k : Nat) : Int := h.l.getD k 0
/-- all heaps' numbers are as many as deeds -/
def Fit (n : Nat) (hs : List Hea) : Prop := ∀ h ∈ hs, h.t.length = n ∧ h.l.length = n
theorem OkYar.fit {y : Yar} (h : OkYar y) : Fit y.d.length y.h := fun x hx => ⟨(h.hp x hx).tl, (h.hp x hx).ll⟩
def thereB (hs : List Hea) (st : List Int) (k : Nat) : Bool := (st.zip hs).all fun p => decide (tk p.2 k ≤ p.1)
def ledL (hs : List Hea) (st : List Int) (k : Nat) : List Int := (st.zip hs).map fun p => p.1 - tk p.2 k + lk p.2 k
namespace Y
end Y
end Mir

/-! Mir: maps as the laws draw them. -/
namespace Mir
open PySem PySem.Spec PyProof.Rows L2
abbrev Rows' := List (List (Option Nat))
structure Cha where
  n : List Str
  r : Rows'
def oD : Option Nat → D
  | none => .non
  | some k => .int (k : Nat)
def rowD (r : List (Option Nat)) : D := .tup (r.map oD)
def way (r : Rows') (a k b : Nat) : Prop := ∃ x, r[a]? = some x ∧ x[k]? = some (some b)
inductive Com (r : Rows') : Nat → Prop
  | zero : Com r 0
  | step {a k b : Nat} : Com r a → way r a k b → Com r b
structure OkRows (w : Nat) (r : Rows') : Prop where
  pos : 0 < r.length
  wid : ∀ x ∈ r, x.length = w
  rng : ∀ a k b, way r a k b → b < r.length
  com : ∀ b, b < r.length → Com r b
  deed : ∀ k, k < w → ∃ a b, way r a k b
structure OkCha (c : Cha) : Prop where
  nms : Nms c.n
  rows : OkRows c.n.length c.r
/-! ### the rooms in another order -/
def rAt (r : Rows') (a : Nat) : List (Option Nat) := r.getD a []
theorem rAt_eq {r : Rows'} {a : Nat} {x : List (Option Nat)} (h : r[a]? = some x) : rAt r a = x := by unfold rAt; rw [List.getD_eq_getElem?_getD, h]; rfl
theorem rAt_lt {r : Rows'} {a : Nat} (h : a < r.length) : rAt r a = r[a] := rAt_eq (List.getElem?_eq_getElem h)
theorem rAt_mem {r : Rows'} {a : Nat} (h : a < r.length) : rAt r a ∈ r := by rw [rAt_lt h]; exact List.getElem_mem h
def oAt (x : List (Option Nat)) (k : Nat) : Option Nat := x.getD k none
def reRow (ord : List Nat) (x : List (Option Nat)) : List (Option Nat) := x.map (Option.map fun b => ord.idxOf b)
def reR (ord : List Nat) (r : Rows') : Rows' := ord.map fun a => reRow ord (rAt r a)
/-- an order of the rooms: the first one stays -/
structure Ord (n : Nat) (ord : List Nat) : Prop where
  perm : ord.Perm (List.range n)
  head : ord[0]? = some 0
theorem Ord.len {n : Nat} {ord : List Nat} (h : Ord n ord) : ord.length = n := by rw [h.perm.length_eq, List.length_range]
theorem Ord.mem {n : Nat} {ord : List Nat} (h : Ord n ord) {a : Nat} : a ∈ ord ↔ a < n := by rw [h.perm.mem_iff, List.mem_range]
theorem Ord.nd {n : Nat} {ord : List Nat} (h : Ord n ord) : ord.Nodup := h.perm.symm.nodup List.nodup_range
theorem Ord.get {n : Nat} {ord : List Nat} (h : Ord n ord) {a : Nat} (ha : a < n) : ord[ord.idxOf a]? = some a := by
  have hl := List.idxOf_lt_length_iff.mpr (h.mem.mpr ha)
  rw [List.getElem?_eq_getElem hl, List.getElem_idxOf]
theorem Ord.idx {n : Nat} {ord : List Nat} (h : Ord n ord) {j a : Nat} (e : ord[j]? = some a) : ord.idxOf a = j := by
  obtain ⟨hj, rfl⟩ := List.getElem?_eq_some_iff.mp e
  exact h.nd.idxOf_getElem j hj
theorem way_re {ord : List Nat} {r : Rows'} (h : Ord r.length ord) {a k b : Nat} (hb : b < r.length) : way (reR ord r) (ord.idxOf a) k (ord.idxOf b) ↔ (a < r.length → way r a k b) ∧ a < r.length := by
  constructor
  · rintro ⟨x, e1, e2⟩
    have hl : ord.idxOf a < ord.length := by
      have := (List.getElem?_eq_some_iff.mp e1).1
      unfold reR at this
      simpa using this
    have ha : a < r.length := h.mem.mp (List.idxOf_lt_length_iff.mp hl)
    refine ⟨fun _ => ?_, ha⟩
    unfold reR at e1
    rw [List.getElem?_map, h.get ha] at e1
    cases e1
    unfold reRow at e2
    rw [List.getElem?_map] at e2
    have hg : rAt r a = r[a] := rAt_lt ha
    rw [hg] at e2
    refine ⟨r[a], List.getElem?_eq_getElem ha, ?_⟩
    cases hk : r[a][k]? with
    | none => rw [hk] at e2; cases e2
    | some o =>
      rw [hk] at e2
      cases o with
      | none => cases e2
      | some c =>
        have e3 : ord.idxOf c = ord.idxOf b := by simpa using e2
        have hb' := h.get hb
        by_cases hc : c ∈ ord
        · have hc' := h.get (h.mem.mp hc)
          rw [e3, hb'] at hc'
          cases hc'
          rfl
        · have q1 := List.idxOf_lt_length_iff.mpr (h.mem.mpr hb)
          have q2 : ¬ ord.idxOf c < ord.length := fun z => hc (List.idxOf_lt_length_iff.mp z)
          omega
  · rintro ⟨h1, ha⟩
    obtain ⟨x, e1, e2⟩ := h1 ha
    refine ⟨reRow ord x, ?_, ?_⟩
    · unfold reR
      rw [List.getElem?_map, h.get ha]
      show some (reRow ord (rAt r a)) = _
      rw [rAt_eq e1]
    · unfold reRow
      rw [List.getElem?_map, e2]
      rfl
theorem OkRows.re {w : Nat} {r : Rows'} (ok : OkRows w r) {ord : List Nat} (h : Ord r.length ord) : OkRows w (reR ord r) := by
  have len : (reR ord r).length = r.length := by unfold reR; rw [List.length_map, h.len]
  have back : ∀ a k b, way (reR ord r) a k b → ∃ a' b', a = ord.idxOf a' ∧ b = ord.idxOf b' ∧ way r a' k b' := by
    rintro a k b ⟨x, e1, e2⟩
    unfold reR at e1
    rw [List.getElem?_map] at e1
    cases hq : ord[a]? with
    | none => rw [hq] at e1; cases e1
    | some a' =>
      rw [hq] at e1
      cases e1
      have ha : a' < r.length := h.mem.mp (List.mem_of_getElem? hq)
      unfold reRow at e2
      rw [List.getElem?_map] at e2
      have hg : rAt r a' = r[a'] := rAt_lt ha
      rw [hg] at e2
      cases hk : r[a'][k]? with
      | none => rw [hk] at e2; cases e2
      | some o =>
        rw [hk] at e2
        cases o with
        | none => cases e2
        | some c =>
          refine ⟨a', c, (h.idx hq).symm, ?_, r[a'], List.getElem?_eq_getElem ha, hk⟩
          simpa using e2.symm
  have z : ord.idxOf 0 = 0 := h.idx h.head
  have com : ∀ b, Com r b → b < r.length → Com (reR ord r) (ord.idxOf b) := by
    intro b hb
    induction hb with
    | zero => intro _; rw [z]; exact .zero
    | @step a k b ha hw ih =>
      intro hb
      have hal : a < r.length := by obtain ⟨x, e, _⟩ := hw; exact (List.getElem?_eq_some_iff.mp e).1
      exact .step (ih hal) ((way_re h hb).mpr ⟨fun _ => hw, hal⟩)
  refine ⟨by rw [len]; exact ok.pos, fun x hx => ?_, fun a k b hw => ?_, fun b hb => ?_, fun k hk => ?_⟩
  · obtain ⟨a, ha, rfl⟩ := List.mem_map.mp hx
    have ha := h.mem.mp ha
    unfold reRow
    rw [List.length_map]
    exact ok.wid _ (rAt_mem ha)
  · obtain ⟨a', b', _, rfl, hw'⟩ := back a k b hw
    rw [len, ← h.len]
    exact List.idxOf_lt_length_iff.mpr (h.mem.mpr (ok.rng _ _ _ hw'))
  · rw [len] at hb
    have hl : b < ord.length := by rw [h.len]; exact hb
    have hm : ord[b] < r.length := h.mem.mp (List.getElem_mem hl)
    have := com ord[b] (ok.com _ hm) hm
    rw [h.idx (List.getElem?_eq_getElem hl)] at this
    exact this
  · obtain ⟨a, b, hw⟩ := ok.deed k hk
    have hal : a < r.length := by obtain ⟨x, e, _⟩ := hw; exact (List.getElem?_eq_some_iff.mp e).1
    exact ⟨_, _, (way_re h (ok.rng _ _ _ hw)).mpr ⟨fun _ => hw, hal⟩⟩

namespace Y
end Y
/-! ### lists of unlike numbers -/
theorem nodup_len : ∀ (n : Nat) (l : List Nat), l.Nodup → (∀ a ∈ l, a < n) → l.length ≤ n
  | 0, l, _, h => by
    cases l with
    | nil => simp
    | cons a r => exact absurd (h a List.mem_cons_self) (by omega)
  | n + 1, l, nd, h => by
    have h1 := nodup_len n (l.erase n) (nd.erase n) (fun a ha => by
      have h2 := h a (List.mem_of_mem_erase ha)
      have h3 : a ≠ n := (List.Nodup.mem_erase_iff nd |>.mp ha).1
      omega)
    have h2 : l.length ≤ (l.erase n).length + 1 := by
      rw [List.length_erase]
      split <;> omega
    omega
theorem nodup_full {n : Nat} {l : List Nat} (nd : l.Nodup) (h : ∀ a ∈ l, a < n) (hl : l.length = n) {b : Nat} (hb : b < n) : b ∈ l := by
  refine Classical.byContradiction fun hn => ?_
  have := nodup_len n (b :: l) (List.nodup_cons.mpr ⟨hn, nd⟩) (fun a ha => by
    rcases List.mem_cons.mp ha with e | e
    · rw [e]; exact hb
    · exact h a e)
  simp at this
  omega
/-- what was is as it was -/
def Kp (m m' : Mem) : Prop := m.length ≤ m'.length ∧ ∀ j, j < m.length → m'[j]? = m[j]?
theorem Kp.refl (m : Mem) : Kp m m := ⟨Nat.le_refl _, fun _ _ => rfl⟩
theorem Kp.trans {m m1 m2 : Mem} (h : Kp m m1) (k : Kp m1 m2) : Kp m m2 := ⟨Nat.le_trans h.1 k.1, fun j hj => (k.2 j (Nat.lt_of_lt_of_le hj h.1)).trans (h.2 j hj)⟩
theorem Kp.push {m m' : Mem} (h : Kp m m') (c : Cell) : Kp m (m' ++ [c]) := ⟨by rw [List.length_append]; exact Nat.le_trans h.1 (Nat.le_add_right _ _), fun j hj => by rw [List.getElem?_append_left (Nat.lt_of_lt_of_le hj h.1)]; exact h.2 j hj⟩
theorem Kp.put {m m' : Mem} (h : Kp m m') {j : Nat} (hj : m.length ≤ j) (c : Cell) : Kp m (m'.set j c) := ⟨by rw [List.length_set]; exact h.1, fun k hk => by rw [List.getElem?_set_ne (by omega)]; exact h.2 k hk⟩
theorem Kp.get {m m' : Mem} (h : Kp m m') {j : Nat} {c : Cell} (e : m[j]? = some c) : m'[j]? = some c := (h.2 j (List.getElem?_eq_some_iff.mp e).1).trans e
theorem Kp.flo {m m' : Mem} {i : Nat} (h : Kp m m') (hf : FlowAt m i) : Flo m m' i := by
  refine ⟨?_, h.1, fun j _ hj => h.2 j hj⟩
  obtain ⟨l, e, q⟩ := hf
  exact ⟨l, h.get e, q⟩
theorem Flo.kp {m m1 m2 : Mem} {i : Nat} (h : Flo m m1 i) (k : Kp m1 m2) : Flo m m2 i := h.trans (k.flo h.at)
/-- a map as it may be before it is looked at -/
structure PreRows (w : Nat) (r : Rows') : Prop where
  pos : 0 < r.length
  few : r.length ≤ 900
  wf : w ≤ 900
  wid : ∀ x ∈ r, x.length = w
  rng : ∀ a k b, way r a k b → b < r.length
theorem PreRows.row {w : Nat} {r : Rows'} (h : PreRows w r) {a : Nat} (ha : a < r.length) {b : Nat} (hb : some b ∈ rAt r a) : ∃ k, way r a k b := by
  obtain ⟨k, e⟩ := List.mem_iff_getElem?.mp hb
  exact ⟨k, _, by rw [rAt_lt ha]; exact List.getElem?_eq_getElem ha, e⟩
/-- rooms found by a search -/
structure Srch (r : Rows') (ord : List Nat) : Prop where
  nd : ord.Nodup
  pos : 0 < ord.length
  ok : ∀ a ∈ ord, a < r.length ∧ Com r a
theorem Srch.len {r : Rows'} {ord : List Nat} (g : Srch r ord) : ord.length ≤ r.length := nodup_len _ _ g.nd fun a ha => (g.ok a ha).1
theorem Srch.zero {r : Rows'} (h : 0 < r.length) : Srch r [0] := ⟨by simp, by simp, fun a ha => by
  have : a = 0 := by simpa using ha
  rw [this]
  exact ⟨h, .zero⟩⟩
theorem Srch.add {r : Rows'} {ord : List Nat} (g : Srch r ord) {b : Nat} (hb : b ∉ ord) (h1 : b < r.length) (h2 : Com r b) : Srch r (ord ++ [b]) := by
  refine ⟨?_, by simp, fun a ha => ?_⟩
  · rw [List.nodup_append]
    refine ⟨g.nd, by simp, fun a ha c hc => ?_⟩
    have : c = b := by simpa using hc
    rw [this]
    exact fun e => hb (e ▸ ha)
  · rcases List.mem_append.mp ha with ha | ha
    · exact g.ok a ha
    · have : a = b := by simpa using ha
      rw [this]
      exact ⟨h1, h2⟩
namespace Y
end Y

theorem ixN_nat {n k : Nat} (h : k < n) : ixN n ((k : Nat) : Int) = some k := by
  unfold ixN
  rw [if_pos (by omega), if_pos (by omega)]
  simp
theorem way_set {r : Rows'} {a k k' : Nat} {b : Nat} {v : Option Nat} {x : List (Option Nat)} (hx : r[a]? = some x) {a' : Nat} (hw : way (r.set a (x.set k v)) a' k' b) : way r a' k' b ∨ v = some b := by
  obtain ⟨y, e1, e2⟩ := hw
  by_cases ha : a = a'
  · subst ha
    have hal := (List.getElem?_eq_some_iff.mp hx).1
    rw [List.getElem?_set_self hal] at e1
    cases e1
    by_cases hk : k = k'
    · subst hk
      by_cases hl : k < x.length
      · rw [List.getElem?_set_self hl] at e2
        exact .inr (Option.some.inj e2)
      · rw [List.getElem?_eq_none (by rw [List.length_set]; omega)] at e2
        cases e2
    · rw [List.getElem?_set_ne hk] at e2
      exact .inl ⟨x, hx, e2⟩
  · rw [List.getElem?_set_ne ha] at e1
    exact .inl ⟨y, e1, e2⟩
namespace Y
end Y
end Mir

/-! Mir: what a yard does, gone through. -/
namespace Mir
open PySem PySem.Spec PyProof.Rows L2
/-! ### tuples of numbers, found in a list -/
/-! ### the stands of a yard -/
/-- stands as found, rows as far as they are written -/
structure Wk (hs : List Hea) (st0 : List Int) (sts : List (List Int)) (rows : Rows') : Prop where
  nd : sts.Nodup
  st0 : sts[0]? = some st0
  row : ∀ (a k : Nat) x o, rows[a]? = some x → x[k]? = some o → ∃ st, sts[a]? = some st ∧ (o = none → thereB hs st k = false) ∧ ∀ b, o = some b → thereB hs st k = true ∧ sts[b]? = some (ledL hs st k)
  com : ∀ b, b < sts.length → b = 0 ∨ ∃ a k, a < b ∧ way rows a k b
theorem Wk.mono {hs : List Hea} {st0 : List Int} {sts : List (List Int)} {rows : Rows'} {x : List (Option Nat)} {o : Option Nat} {extra : List (List Int)} (w : Wk hs st0 sts (rows ++ [x])) {st : List Int} (hst : sts[rows.length]? = some st)
    (hn : o = none → thereB hs st x.length = false) (hb : ∀ b, o = some b → thereB hs st x.length = true ∧ (sts ++ extra)[b]? = some (ledL hs st x.length)) (hnd : (sts ++ extra).Nodup) (hc : ∀ b, sts.length ≤ b → b < (sts ++ extra).length → o = some b) :
    Wk hs st0 (sts ++ extra) (rows ++ [x ++ [o]]) := by
  have up : ∀ (b : Nat) s, sts[b]? = some s → (sts ++ extra)[b]? = some s := fun b s e => by
    rw [List.getElem?_append_left (List.getElem?_eq_some_iff.mp e).1]; exact e
  have hr : rows.length < sts.length := (List.getElem?_eq_some_iff.mp hst).1
  have ways : ∀ a k b, way (rows ++ [x]) a k b → way (rows ++ [x ++ [o]]) a k b := fun a k b ⟨y, e1, e2⟩ => by
    by_cases ha : a < rows.length
    · rw [List.getElem?_append_left ha] at e1
      exact ⟨y, by rw [List.getElem?_append_left ha]; exact e1, e2⟩
    · have hl := (List.getElem?_eq_some_iff.mp e1).1
      simp at hl
      have : a = rows.length := by omega
      subst this
      simp at e1
      subst e1
      refine ⟨x ++ [o], by simp, ?_⟩
      rw [List.getElem?_append_left (List.getElem?_eq_some_iff.mp e2).1]
      exact e2
  refine ⟨hnd, up _ _ w.st0, fun a k y o' e1 e2 => ?_, fun b hb' => ?_⟩
  · by_cases ha : a < rows.length
    · rw [List.getElem?_append_left ha] at e1
      obtain ⟨s, h1, h2, h3⟩ := w.row a k y o' (by rw [List.getElem?_append_left ha]; exact e1) e2
      exact ⟨s, up _ _ h1, h2, fun b e => ⟨(h3 b e).1, up _ _ (h3 b e).2⟩⟩
    · have hl := (List.getElem?_eq_some_iff.mp e1).1
      simp at hl
      have : a = rows.length := by omega
      subst this
      simp at e1
      subst e1
      by_cases hk : k < x.length
      · rw [List.getElem?_append_left hk] at e2
        obtain ⟨s, h1, h2, h3⟩ := w.row rows.length k x o' (by simp) e2
        exact ⟨s, up _ _ h1, h2, fun b e => ⟨(h3 b e).1, up _ _ (h3 b e).2⟩⟩
      · have hkl := (List.getElem?_eq_some_iff.mp e2).1
        simp at hkl
        have : k = x.length := by omega
        subst this
        simp at e2
        subst e2
        exact ⟨st, up _ _ hst, hn, hb⟩
  · by_cases hl : b < sts.length
    · rcases w.com b hl with h | ⟨a, k, h1, h2⟩
      · exact .inl h
      · exact .inr ⟨a, k, h1, ways _ _ _ h2⟩
    · refine .inr ⟨rows.length, x.length, by omega, x ++ [o], by simp, ?_⟩
      rw [hc b (by omega) hb']
      simp
theorem Wk.nil {hs : List Hea} {st0 : List Int} {sts : List (List Int)} {rows : Rows'} (w : Wk hs st0 sts rows) : Wk hs st0 sts (rows ++ [[]]) := by
  refine ⟨w.nd, w.st0, fun a k y o' e1 e2 => ?_, fun b hb => ?_⟩
  · by_cases ha : a < rows.length
    · rw [List.getElem?_append_left ha] at e1
      exact w.row a k y o' e1 e2
    · have hl := (List.getElem?_eq_some_iff.mp e1).1
      simp at hl
      have : a = rows.length := by omega
      subst this
      simp at e1
      subst e1
      simp at e2
  · rcases w.com b hb with h | ⟨a, k, h1, y, e1, e2⟩
    · exact .inl h
    · exact .inr ⟨a, k, h1, y, by rw [List.getElem?_append_left (List.getElem?_eq_some_iff.mp e1).1]; exact e1, e2⟩

namespace Y
end Y

/-! ### the map that a yard does -/
theorem oAt_eq {x : List (Option Nat)} {k : Nat} {o : Option Nat} (h : x[k]? = some o) : oAt x k = o := by
  unfold oAt
  rw [List.getD_eq_getElem?_getD, h]
  rfl
theorem oAt_get {x : List (Option Nat)} {k : Nat} (h : k < x.length) : x[k]? = some (oAt x k) := by
  unfold oAt
  rw [List.getD_eq_getElem?_getD, List.getElem?_eq_getElem h]
  rfl
theorem Nms.sub {ns ms : List Str} (h : Nms ns) (s : ms.Sublist ns) : Nms ms := ⟨fun x hx => h.nm x (s.subset hx), h.up.sublist s⟩
namespace Y
end Y
end Mir

/-! Mir: maps that are drawn row by row. -/
namespace Mir
open PySem PySem.Spec PyProof.Rows L2
/-! ### rows kept as cells -/
def refs (j n : Nat) : List D := (List.range n).map fun a => D.ref (j + a)
structure RowsAt (m : Mem) (j : Nat) (r : Rows') : Prop where
  at' : ∀ a x, r[a]? = some x → m[j + a]? = some (.lst (x.map oD))
def setR (r : Rows') (a k : Nat) (v : Option Nat) : Rows' := r.set a ((rAt r a).set k v)
theorem setR_len (r : Rows') (a k : Nat) (v : Option Nat) : (setR r a k v).length = r.length := List.length_set
theorem setR_wid {w : Nat} {r : Rows'} (h : ∀ x ∈ r, x.length = w) {a k : Nat} {v : Option Nat} (ha : a < r.length) : ∀ x ∈ setR r a k v, x.length = w := fun x hx => by
  rcases List.mem_or_eq_of_mem_set hx with hx | hx
  · exact h x hx
  · rw [hx, List.length_set]; exact h _ (rAt_mem ha)
theorem rAt_some {r : Rows'} {a : Nat} (ha : a < r.length) : r[a]? = some (rAt r a) := by rw [rAt_lt ha]; exact List.getElem?_eq_getElem ha
theorem setR_back {r : Rows'} {a k a' k' b : Nat} {v : Option Nat} (ha : a < r.length) (hw : way (setR r a k v) a' k' b) : way r a' k' b ∨ v = some b := way_set (rAt_some ha) hw
theorem setR_rng {r : Rows'} {a k b : Nat} (ha : a < r.length) (h : ∀ a' k' b', way r a' k' b' → b' < r.length) (hb : b < r.length) : ∀ a' k' b', way (setR r a k (some b)) a' k' b' → b' < (setR r a k (some b)).length := fun a' k' b' hw => by
  rw [setR_len]
  rcases setR_back ha hw with hw | e
  · exact h _ _ _ hw
  · cases e; exact hb
theorem RowsAt.set {m : Mem} {j : Nat} {r : Rows'} (h : RowsAt m j r) {a k : Nat} {v : Option Nat} (ha : a < r.length) (hk : k < (rAt r a).length) :
    gSet (.ref (j + a)) (.int (k : Nat)) (oD v) m = .ok () (m.set (j + a) (.lst (((rAt r a).set k v).map oD))) ∧ RowsAt (m.set (j + a) (.lst (((rAt r a).set k v).map oD))) j (setR r a k v) := by
  have hx := h.at' a _ (rAt_some ha)
  constructor
  · have := gSet_ref (d := oD v) hx (ixN_nat (n := ((rAt r a).map oD).length) (k := k) (by rw [List.length_map]; exact hk))
    rw [← List.map_set] at this
    exact this
  · refine ⟨fun a' x e => ?_⟩
    by_cases q : a' = a
    · subst q
      unfold setR at e
      rw [List.getElem?_set_self ha] at e
      cases e
      rw [List.getElem?_set_self (List.getElem?_eq_some_iff.mp hx).1]
    · unfold setR at e
      rw [List.getElem?_set_ne (fun z => q z.symm)] at e
      rw [List.getElem?_set_ne (by omega)]
      exact h.at' a' x e
theorem RowsAt.flo {m m' : Mem} {i j : Nat} {r : Rows'} (h : RowsAt m j r) (k : Flo m m' i) (hi : i < j) : RowsAt m' j r := ⟨fun a x e => k.get (by omega) (h.at' a x e)⟩
theorem RowsAt.kp {m m' : Mem} {j : Nat} {r : Rows'} (h : RowsAt m j r) (k : Kp m m') : RowsAt m' j r := ⟨fun a x e => k.get (h.at' a x e)⟩
theorem RowsAt.get {m : Mem} {j : Nat} {r : Rows'} (h : RowsAt m j r) {a k : Nat} (ha : a < r.length) (hk : k < (rAt r a).length) : gIx (.ref (j + a)) (.int (k : Nat)) m = .ok (oD (oAt (rAt r a) k)) m := by
  refine gIx_ref (h.at' a _ (rAt_some ha)) (Y.atI_nat ?_)
  rw [List.getElem?_map, oAt_get hk]
  rfl
theorem RowsAt.tuples {m : Mem} {j n : Nat} {r : Rows'} {η : Env'} {v : Nat} (h : RowsAt m j r) (hn : r.length = n) (hl : n ≤ 900) (hv : v < η.length) :
    compD (gNm v) mYes (mCB bTuple (mCons (mVar v) mNil)) η (refs j n) m [] = .ok (r.map rowD) m := by
  unfold refs
  rw [comp_mapT (fun a : Nat => D.ref (j + a)) (fun a => rowD (rAt r a)) (List.range n) [] (fun a ha => by
    have ha : a < r.length := by rw [hn]; exact List.mem_range.mp ha
    refine ⟨_, rfl, rfl, ?_⟩
    have e : (η.set v (some (D.ref (j + a))))[v]? = some (some (D.ref (j + a))) := List.getElem?_set_self hv
    simp [mVar, varR, e, tuple_ref (h.at' a _ (rAt_some ha)), rowD]) (by simp; omega)]
  congr 1
  refine List.ext_getElem? fun a => ?_
  by_cases ha : a < n
  · rw [List.nil_append, List.getElem?_map, List.getElem?_range ha, List.getElem?_map, rAt_some (by omega)]
    rfl
  · rw [List.getElem?_eq_none (by simp; omega), List.getElem?_eq_none (by simp; omega)]

theorem RowsAt.put {m0 m : Mem} {i j : Nat} {r : Rows'} (h : RowsAt m j r) (hfl : Flo m0 m i) (hj : m0.length ≤ j) (hij : i < j) {a k : Nat} (v : Option Nat) (ha : a < r.length) (hk : k < (rAt r a).length) :
    ∃ m', gSet (.ref (j + a)) (.int (k : Nat)) (oD v) m = .ok () m' ∧ RowsAt m' j (setR r a k v) ∧ Flo m0 m' i := by
  obtain ⟨s1, s2⟩ := h.set (v := v) ha hk
  exact ⟨_, s1, s2, hfl.put (by omega) (by omega) _⟩
theorem RowsAt.new {m : Mem} {n : Nat} {x : List (Option Nat)} : RowsAt (m ++ List.replicate n (Cell.lst (x.map oD))) m.length (List.replicate n x) := ⟨fun a y e => by
  rw [List.getElem?_replicate] at e
  split at e
  · rename_i ha
    cases e
    rw [List.getElem?_append_right (by omega), Nat.add_sub_cancel_left, List.getElem?_replicate, if_pos ha]
  · cases e⟩
theorem Kp.many {m : Mem} (cs : List Cell) : Kp m (m ++ cs) := ⟨by simp, fun j hj => List.getElem?_append_left hj⟩
/-- rows with nothing in them yet -/
structure Raw (w n : Nat) (r : Rows') : Prop where
  len : r.length = n
  wid : ∀ x ∈ r, x.length = w
  rng : ∀ a k b, way r a k b → b < r.length
theorem Raw.new (w n : Nat) : Raw w n (List.replicate n (List.replicate w none)) := by
  refine ⟨by simp, fun x hx => ?_, fun a k b hw => ?_⟩
  · rw [(List.mem_replicate.mp hx).2]; simp
  · obtain ⟨x, e1, e2⟩ := hw
    rw [(List.mem_replicate.mp (List.mem_of_getElem? e1)).2] at e2
    have := (List.mem_replicate.mp (List.mem_of_getElem? e2)).2
    cases this
theorem Raw.set {w n : Nat} {r : Rows'} (h : Raw w n r) {a k b : Nat} (ha : a < n) (hb : b < n) : Raw w n (setR r a k (some b)) :=
  ⟨by rw [setR_len]; exact h.len, setR_wid h.wid (by rw [h.len]; exact ha), setR_rng (by rw [h.len]; exact ha) h.rng (by rw [h.len]; exact hb)⟩
theorem Raw.row {w n : Nat} {r : Rows'} (h : Raw w n r) {a : Nat} (ha : a < n) : (rAt r a).length = w := h.wid _ (rAt_mem (by rw [h.len]; exact ha))
/-- two rows of deeds from the first room to the last one -/
structure Two (one many : Nat) (r : Rows') : Prop where
  f0 : ∀ a, a < one → way r a 0 (if a + 1 = one then many - 1 else a + 1)
  f1 : way r 0 1 one
  f2 : ∀ a, one ≤ a → a + 1 < many → way r a 1 (a + 1)
theorem Two.ok {one many : Nat} {r : Rows'} (t : Two one many r) (raw : Raw 2 many r) (h1 : 1 ≤ one) (h2 : one < many) : OkRows 2 r := by
  have c0 : ∀ b, b < one → Com r b := by
    intro b
    induction b with
    | zero => intro _; exact .zero
    | succ b ih =>
      intro hb
      have := t.f0 b (by omega)
      rw [if_neg (by omega)] at this
      exact .step (ih (by omega)) this
  have c1 : ∀ k, one + k < many → Com r (one + k) := by
    intro k
    induction k with
    | zero => intro _; exact .step .zero t.f1
    | succ k ih => intro hk; exact .step (ih (by omega)) (t.f2 (one + k) (by omega) (by omega))
  refine ⟨by rw [raw.len]; omega, raw.wid, raw.rng, fun b hb => ?_, fun k hk => ?_⟩
  · rw [raw.len] at hb
    by_cases q : b < one
    · exact c0 b q
    · have := c1 (b - one) (by omega)
      rw [show one + (b - one) = b by omega] at this
      exact this
  · have : k = 0 ∨ k = 1 := by omega
    rcases this with rfl | rfl
    · exact ⟨_, _, t.f0 0 (by omega)⟩
    · exact ⟨_, _, t.f1⟩
namespace Y
end Y
end Mir

/-! Mir: any map. -/
namespace Mir
open PySem PySem.Spec PyProof.Rows L2
theorem rng_get {n k : Nat} {d : D} (h : (rngD 0 n)[k]? = some d) : k < n ∧ d = .int (k : Nat) := by
  rw [Y.rngD_nat, List.getElem?_map] at h
  have hk : k < n := by
    cases hq : (List.range n)[k]? with
    | none => rw [hq] at h; cases h
    | some z => have := (List.getElem?_eq_some_iff.mp hq).1; simpa using this
  rw [List.getElem?_range hk] at h
  exact ⟨hk, (Option.some.inj h).symm⟩
theorem Com.mono {r r' : Rows'} (h : ∀ a k b, way r a k b → way r' a k b) {b : Nat} (c : Com r b) : Com r' b := by
  induction c with
  | zero => exact .zero
  | step _ hw ih => exact .step ih (h _ _ _ hw)
/-- rows that are drawn, kept in cells beside the flow -/
structure Dr (m m' : Mem) (i j w n : Nat) (r : Rows') : Prop where
  fl : Flo m m' i
  ro : RowsAt m' j r
  raw : Raw w n r
namespace Y
section
variable {m : Mem} {i j w n : Nat} {P : D → Mem → Prop} {N : Env' → Mem → Prop} {e1 e2 : Option D}
theorem RowsAt.lt {m : Mem} {j : Nat} {r : Rows'} (h : RowsAt m j r) {a : Nat} (ha : a < r.length) : j + a < m.length := (List.getElem?_eq_some_iff.mp (h.at' a _ (rAt_some ha))).1
end
end Y
end Mir

/-! Mir: the ways of a map, levels. -/
namespace Mir
open PySem PySem.Spec PyProof.Rows L2
/-! ### all ways of a map -/
def wayOf (a : Nat) (x : List (Option Nat)) : List (Nat × Nat × Nat) := x.zipIdx.filterMap fun p => p.1.map fun b => (a, p.2, b)
def wayL (r : Rows') : List (Nat × Nat × Nat) := r.zipIdx.flatMap fun p => wayOf p.2 p.1
theorem wayL_mem {r : Rows'} {a k b : Nat} : (a, k, b) ∈ wayL r ↔ way r a k b := by
  unfold wayL wayOf way
  simp only [List.mem_flatMap, List.mem_filterMap]
  constructor
  · rintro ⟨⟨x, a'⟩, hx, ⟨⟨o, k'⟩, ho, e⟩⟩
    have h1 := List.mem_zipIdx_iff_getElem?.mp hx
    have h2 := List.mem_zipIdx_iff_getElem?.mp ho
    cases o with
    | none => cases e
    | some b' =>
      have : (a', k', b') = (a, k, b) := by simpa using e
      cases this
      exact ⟨x, h1, h2⟩
  · rintro ⟨x, e1, e2⟩
    exact ⟨(x, a), List.mem_zipIdx_iff_getElem?.mpr e1, (some b, k), List.mem_zipIdx_iff_getElem?.mpr e2, rfl⟩

namespace Y
end Y
end Mir

/-! Mir: levels. -/
namespace Mir
open PySem PySem.Spec PyProof.Rows L2
def fAt (f : List (Option Int)) (a : Nat) : Option Int := f.getD a none
theorem fAt_set {f : List (Option Int)} {a b : Nat} {v : Option Int} (h : b < f.length) : fAt (f.set b v) a = if a = b then v else fAt f a := by
  unfold fAt
  rw [List.getD_eq_getElem?_getD, List.getD_eq_getElem?_getD]
  by_cases e : a = b
  · subst e
    rw [if_pos rfl, List.getElem?_set_self h]
    rfl
  · rw [if_neg e, List.getElem?_set_ne (fun q => e q.symm)]
structure IsLev (r : Rows') (e L : Nat → Int) : Prop where
  z : L 0 = 0
  w : ∀ a k b, way r a k b → L b = L a + e k
theorem IsLev.uniq {r : Rows'} {e L L' : Nat → Int} (h : IsLev r e L) (h' : IsLev r e L') {b : Nat} (c : Com r b) : L b = L' b := by
  induction c with
  | zero => rw [h.z, h'.z]
  | step _ hw ih => rw [h.w _ _ _ hw, h'.w _ _ _ hw, ih]
/-- levels found so far -/
structure Fnd (r : Rows') (e : Nat → Int) (f : List (Option Int)) : Prop where
  len : f.length = r.length
  z : fAt f 0 = some 0
  ok : ∀ L, IsLev r e L → ∀ a v, fAt f a = some v → v = L a
theorem Fnd.set {r : Rows'} {e : Nat → Int} {f : List (Option Int)} (h : Fnd r e f) {a k b : Nat} {v : Int} (hw : way r a k b) (hb : b < r.length) (hv : fAt f a = some v) (hn : fAt f b = none) : Fnd r e (f.set b (some (v + e k))) := by
  have hbl : b < f.length := by rw [h.len]; exact hb
  refine ⟨by rw [List.length_set]; exact h.len, ?_, fun L hL x y hy => ?_⟩
  · rw [fAt_set hbl, if_neg (fun q => by rw [← q, h.z] at hn; cases hn)]
    exact h.z
  · rw [fAt_set hbl] at hy
    by_cases q : x = b
    · rw [if_pos q] at hy
      cases hy
      rw [q, hL.w a k b hw, h.ok L hL a v hv]
    · rw [if_neg q] at hy
      exact h.ok L hL x y hy
/-- a place that is next: come to from what is found, not found yet -/
theorem next_of {r : Rows'} {p : Nat → Prop} (h0 : p 0) {b : Nat} (c : Com r b) (hb : ¬ p b) : ∃ a k b', way r a k b' ∧ p a ∧ ¬ p b' := by
  induction c with
  | zero => exact absurd h0 hb
  | @step a k b _ hw ih =>
    by_cases ha : p a
    · exact ⟨a, k, b, hw, ha, hb⟩
    · exact ih ha
/-- as many as rounds, or all -/
def Many (n t : Nat) (f : List (Option Int)) : Prop := (∀ b, b < n → fAt f b ≠ none) ∨ ∃ S : List Nat, S.Nodup ∧ (∀ a ∈ S, a < n ∧ fAt f a ≠ none) ∧ t + 1 ≤ S.length
theorem Many.step {r : Rows'} {n t : Nat} {f f' : List (Option Int)} (h : Many n t f) (hn : r.length = n) (rng : ∀ a k b, way r a k b → b < r.length) (com : ∀ b, b < n → Com r b) (z : fAt f 0 ≠ none) (up : ∀ a, fAt f a ≠ none → fAt f' a ≠ none) (go : ∀ a k b, way r a k b → fAt f a ≠ none → fAt f' b ≠ none) : Many n (t + 1) f' := by
  by_cases all : ∀ b, b < n → fAt f b ≠ none
  · exact .inl fun b hb => up b (all b hb)
  · rcases h with h | ⟨S, h1, h2, h3⟩
    · exact absurd h all
    · have hex : ∃ b, b < n ∧ ¬ fAt f b ≠ none := by
        refine Classical.byContradiction fun q => all fun b hb => ?_
        exact Classical.byContradiction fun q2 => q ⟨b, hb, q2⟩
      obtain ⟨b, hb, hnb⟩ := hex
      obtain ⟨a, k, b', hw, ha, hb'⟩ := next_of (p := fun a => fAt f a ≠ none) z (com b hb) hnb
      refine .inr ⟨b' :: S, List.nodup_cons.mpr ⟨fun hm => hb' (h2 b' hm).2, h1⟩, fun x hx => ?_, by simp; omega⟩
      rcases List.mem_cons.mp hx with e | hx
      · rw [e]; exact ⟨by rw [← hn]; exact rng _ _ _ hw, go _ _ _ hw ha⟩
      · exact ⟨(h2 x hx).1, up x (h2 x hx).2⟩
theorem Many.all {n t : Nat} {f : List (Option Int)} (h : Many n t f) (ht : n ≤ t) : ∀ b, b < n → fAt f b ≠ none := by
  rcases h with h | ⟨S, h1, h2, h3⟩
  · exact h
  · have := nodup_len n S h1 fun a ha => (h2 a ha).1
    omega

theorem way_wid {w : Nat} {r : Rows'} (h : ∀ x ∈ r, x.length = w) {a k b : Nat} (hw : way r a k b) : a < r.length ∧ k < w := by
  obtain ⟨x, e1, e2⟩ := hw
  refine ⟨(List.getElem?_eq_some_iff.mp e1).1, ?_⟩
  rw [← h x (List.mem_of_getElem? e1)]
  exact (List.getElem?_eq_some_iff.mp e2).1
namespace Y
end Y
end Mir

/-! Mir: the program's levels. -/
namespace Mir
open PySem PySem.Spec PyProof.Rows L2
/-- a way that is told by what is found -/
def Told (r : Rows') (e : Nat → Int) (f : List (Option Int)) (a k b : Nat) : Prop := ∃ v, fAt f a = some v ∧ fAt f b = some (v + e k)
theorem Told.set {r : Rows'} {e : Nat → Int} {f : List (Option Int)} {a k b x : Nat} {u : Option Int} (h : Told r e f a k b) (hx : x < f.length) (hn : fAt f x = none) : Told r e (f.set x u) a k b := by
  obtain ⟨v, h1, h2⟩ := h
  refine ⟨v, ?_, ?_⟩
  · rw [fAt_set hx, if_neg (fun q => by rw [q, hn] at h1; cases h1)]; exact h1
  · rw [fAt_set hx, if_neg (fun q => by rw [q, hn] at h2; cases h2)]; exact h2
/-- a search for levels -/
structure Sr (r : Rows') (e : Nat → Int) (f : List (Option Int)) (ord : List Nat) (at' : Nat) : Prop where
  fnd : Fnd r e f
  srch : Srch r ord
  iff : ∀ a, fAt f a ≠ none ↔ a ∈ ord
  told : ∀ p a k b, p < at' → ord[p]? = some a → way r a k b → Told r e f a k b
namespace Y
end Y
end Mir

/-! Mir: effects and heaps that are drawn for a map. -/
namespace Mir
open PySem PySem.Spec PyProof.Rows L2
def eAt (es : List Int) (k : Nat) : Int := es.getD k 0
structure Effs (n : Nat) (b : Int) (es : List Int) : Prop where
  len : es.length = n
  rng : ∀ x ∈ es, -b ≤ x ∧ x ≤ b
namespace Y
end Y
end Mir

/-! Mir: effects of heaps, counts, lists and tuples made of one another. -/
namespace Mir
namespace Y
open PySem PySem.Spec PyProof.Rows L2 Mir
def effL (h : Hea) : List Int := (h.t.zip h.l).map fun p => p.2 - p.1
theorem effL_at {h : Hea} {n k : Nat} (h1 : h.t.length = n) (h2 : h.l.length = n) (hk : k < n) : eAt (effL h) k = lk h k - tk h k := by
  unfold eAt effL lk tk
  rw [List.getD_eq_getElem?_getD, List.getD_eq_getElem?_getD, List.getD_eq_getElem?_getD, List.getElem?_map, List.getElem?_eq_getElem (show k < (h.t.zip h.l).length by rw [List.length_zip]; omega), List.getElem_zip, List.getElem?_eq_getElem (show k < h.t.length by omega), List.getElem?_eq_getElem (show k < h.l.length by omega)]
  rfl
/-- the counts of a heap -/
def cntH (h : Hea) (L : Nat → Int) : Nat → Int := fun a => h.s + L a
end Y
end Mir

/-! Mir: lows, plain: rounds over all ways. -/
namespace Mir
namespace Y
open PySem PySem.Spec PyProof.Rows L2 Mir
/-- a row from room 0 that comes to a room with a sum -/
inductive Pth (r : Rows') (e : Nat → Int) : Nat → Int → Prop
  | zero : Pth r e 0 0
  | step {a k b : Nat} {s : Int} : Pth r e a s → way r a k b → Pth r e b (s + e k)
structure IsLow (r : Rows') (e L : Nat → Int) : Prop where
  z : L 0 = 0
  w : ∀ a k b, way r a k b → L b ≤ L a + e k
  p : ∀ a, a < r.length → Pth r e a (L a)
theorem IsLow.le {r : Rows'} {e L : Nat → Int} (h : IsLow r e L) {a : Nat} {s : Int} (p : Pth r e a s) : L a ≤ s := by
  induction p with
  | zero => rw [h.z]; exact Int.le_refl _
  | step _ hw ih => have := h.w _ _ _ hw; omega
theorem IsLow.uniq {r : Rows'} {e L L' : Nat → Int} (h : IsLow r e L) (h' : IsLow r e L') {a : Nat} (ha : a < r.length) : L a = L' a := by
  have h1 := h.le (h'.p a ha)
  have h2 := h'.le (h.p a ha)
  omega
theorem IsLev.pth {r : Rows'} {e L : Nat → Int} (h : IsLev r e L) {a : Nat} {s : Int} (p : Pth r e a s) : s = L a := by
  induction p with
  | zero => rw [h.z]
  | step _ hw ih => rw [h.w _ _ _ hw, ih]
theorem Com.pth {r : Rows'} (e : Nat → Int) {b : Nat} (c : Com r b) : ∃ s, Pth r e b s := by
  induction c with
  | zero => exact ⟨0, .zero⟩
  | step _ hw ih => obtain ⟨s, p⟩ := ih; exact ⟨_, p.step hw⟩
theorem IsLev.low {r : Rows'} {e L : Nat → Int} (h : IsLev r e L) (com : ∀ b, b < r.length → Com r b) : IsLow r e L :=
  ⟨h.z, fun a k b hw => by rw [h.w _ _ _ hw]; exact Int.le_refl _, fun a ha => by
    obtain ⟨s, p⟩ := Com.pth e (com a ha)
    rw [← IsLev.pth h p]
    exact p⟩
/-- one way looked at -/
def rel (e : Nat → Int) (s : List (Option Int) × Bool) (w : Nat × Nat × Nat) : List (Option Int) × Bool :=
  match fAt s.1 w.1 with
  | none => s
  | some v => match fAt s.1 w.2.2 with
    | none => (s.1.set w.2.2 (some (v + e w.2.1)), true)
    | some u => if v + e w.2.1 < u then (s.1.set w.2.2 (some (v + e w.2.1)), true) else s
/-- what stands in the list are sums of rows -/
structure Sums (r : Rows') (e : Nat → Int) (f : List (Option Int)) : Prop where
  len : f.length = r.length
  ok : ∀ a v, fAt f a = some v → Pth r e a v
  z : ∃ v, fAt f 0 = some v ∧ v ≤ 0
section
variable {r : Rows'} {e : Nat → Int}
/-- numbers only fall -/
def Lower (f f' : List (Option Int)) : Prop := ∀ a v, fAt f a = some v → ∃ v', fAt f' a = some v' ∧ v' ≤ v
theorem Lower.refl (f : List (Option Int)) : Lower f f := fun a v h => ⟨v, h, Int.le_refl _⟩
theorem Lower.trans {f g h : List (Option Int)} (a : Lower f g) (b : Lower g h) : Lower f h := fun x v hv => by
  obtain ⟨v1, h1, l1⟩ := a x v hv
  obtain ⟨v2, h2, l2⟩ := b x v1 h1
  exact ⟨v2, h2, by omega⟩
/-- so many are done -/
def ManyP (n t : Nat) (p : Nat → Prop) : Prop := (∀ b, b < n → p b) ∨ ∃ S : List Nat, S.Nodup ∧ (∀ a ∈ S, a < n ∧ p a) ∧ t + 1 ≤ S.length
theorem ManyP.step {n t : Nat} {p p' : Nat → Prop} (h : ManyP n t p) (up : ∀ a, p a → p' a) (go : (∃ b, b < n ∧ ¬ p b) → ∃ b, b < n ∧ ¬ p b ∧ p' b) : ManyP n (t + 1) p' := by
  rcases h with h | ⟨S, nd, hS, hl⟩
  · exact .inl fun b hb => up b (h b hb)
  · by_cases hex : ∃ b, b < n ∧ ¬ p b
    · obtain ⟨b, hb, hn, hp⟩ := go hex
      refine .inr ⟨b :: S, List.nodup_cons.mpr ⟨fun hm => hn (hS b hm).2, nd⟩, fun a ha => ?_, by simp; omega⟩
      rcases List.mem_cons.mp ha with rfl | ha
      · exact ⟨hb, hp⟩
      · exact ⟨(hS a ha).1, up a (hS a ha).2⟩
    · refine .inl fun b hb => up b ?_
      by_cases h : p b
      · exact h
      · exact absurd ⟨b, hb, h⟩ hex
theorem ManyP.all {n t : Nat} {p : Nat → Prop} (h : ManyP n t p) (ht : n ≤ t + 1) : ∀ b, b < n → p b := by
  rcases h with h | ⟨S, nd, hS, hl⟩
  · exact h
  · intro b hb
    have h1 := nodup_len n S nd fun a ha => (hS a ha).1
    exact (hS b (nodup_full nd (fun a ha => (hS a ha).1) (by omega) hb)).2
/-- the rooms that have their low -/
def Fin (L : Nat → Int) (f : List (Option Int)) (a : Nat) : Prop := fAt f a = some (L a)
end
end Y
end Mir

/-! Mir: lows, by the law and by the program. -/
namespace Mir
namespace Y
open PySem PySem.Spec PyProof.Rows L2 Mir
end Y
end Mir

/-! Mir: lows by the program. -/
namespace Mir
namespace Y
open PySem PySem.Spec PyProof.Rows L2 Mir
end Y
end Mir

/-! Mir: the least of numbers; tight heaps. -/
namespace Mir
namespace Y
open PySem PySem.Spec PyProof.Rows L2 Mir
def mn (xs : List Int) : Int := (minL xs).getD 0
/-- the rooms that have a way by a deed -/
def hasW (r : Rows') (k : Nat) (a : Nat) : Bool := (oAt (rAt r a) k).isSome
theorem hasW_iff {r : Rows'} {k a : Nat} : hasW r k a = true ↔ ∃ b, way r a k b := by
  unfold hasW way oAt
  constructor
  · intro h
    cases hx : r[a]? with
    | none =>
      rw [show rAt r a = [] by unfold rAt; rw [List.getD_eq_getElem?_getD, hx]; rfl] at h
      simp at h
    | some x =>
      rw [rAt_eq hx, List.getD_eq_getElem?_getD] at h
      cases hk : x[k]? with
      | none => rw [hk] at h; simp at h
      | some o =>
        rw [hk] at h
        cases o with
        | none => simp at h
        | some b => exact ⟨b, x, rfl, hk⟩
  · rintro ⟨b, x, hx, hk⟩
    rw [rAt_eq hx, List.getD_eq_getElem?_getD, hk]
    rfl
def tgtS (r : Rows') (L : Nat → Int) : Int := 0 - mn ((List.range r.length).map L)
/-- numbers of rooms, as a tuple or a list -/
def NumsAt (m : Mem) (d : D) (n : Nat) (L : Nat → Int) : Prop := seqOf m d = some (((List.range n).map L).map .int)
theorem NumsAt.get {m : Mem} {d : D} {n : Nat} {L : Nat → Int} (h : NumsAt m d n L) {a : Nat} (ha : a < n) : gIx d (.int (a : Nat)) m = .ok (.int (L a)) m := by
  have e : atI (((List.range n).map L).map D.int) (a : Nat) = some (.int (L a)) := atI_nat (by rw [List.getElem?_map, List.getElem?_map, List.getElem?_range ha]; rfl)
  cases d with
  | tup ds =>
    have : ds = _ := Option.some.inj h
    subst this
    exact gIx_tup e
  | lst ds =>
    have : ds = _ := Option.some.inj h
    subst this
    exact gIx_lst e
  | scr ds =>
    have : ds = _ := Option.some.inj h
    subst this
    rw [List.map_map] at e
    simp [gIx, ixOf, lstOf, e, oR]
  | ref i =>
    have h' : lstC m[i]? = some _ := h
    cases hc : m[i]? with
    | none => rw [hc] at h'; cases h'
    | some c =>
      rw [hc] at h'
      cases c with
      | lst l =>
        have : l = _ := Option.some.inj h'
        subst this
        exact gIx_ref hc e
      | _ => cases h'
  | _ => cases h
theorem NumsAt.kp {m m' : Mem} {d : D} {n : Nat} {L : Nat → Int} (h : NumsAt m d n L) (k : Kp m m') : NumsAt m' d n L := by
  cases d with
  | ref i =>
    have h' : lstC m[i]? = some _ := h
    show lstC m'[i]? = some _
    cases hc : m[i]? with
    | none => rw [hc] at h'; cases h'
    | some c => rw [k.get hc, ← hc]; exact h'
  | _ => exact h
section
variable {m : Mem} {c : Cha} {dn de : D} {es : List Int} {L : Nat → Int} {P : D → Mem → Prop}
end
end Y
end Mir

/-! Mir: tight heaps, by the law; heaps that have enough. -/
namespace Mir
namespace Y
open PySem PySem.Spec PyProof.Rows L2 Mir
section
variable {m : Mem} {c : Cha} {dn de : D} {es : List Int} {L : Nat → Int} {P : D → Mem → Prop}
/-- a heap has at each way what the deed takes -/
def Enough (r : Rows') (h : Hea) (L : Nat → Int) : Prop := ∀ a k b, way r a k b → tk h k ≤ L a
/-- a heap bears a map -/
def Bears (r : Rows') (h : Hea) : Prop := ∃ L, IsLow r (eAt (effL h)) L ∧ Enough r h fun a => h.s + L a
end
end Y
end Mir

/-! Mir: plain things compared; heaps that stand in a map. -/
namespace Mir
namespace Y
open PySem PySem.Spec PyProof.Rows L2 Mir
/-- things that are told apart by == -/
structure Enc {α : Type} [DecidableEq α] (f : α → D) (k : Nat) : Prop where
  ex : ∃ p : α → PyData, (∀ m n x, toP m (n + k) (f x) = some (p x)) ∧ ∀ x y, PyData.eqv (p x) (p y) = decide (x = y)
theorem eqvAll_map {α : Type} [DecidableEq α] {p : α → PyData} (h : ∀ x y, PyData.eqv (p x) (p y) = decide (x = y)) : ∀ xs ys : List α, PyData.eqvAll (xs.map p) (ys.map p) = decide (xs = ys)
  | [], [] => rfl
  | [], y :: ys => by simp [PyData.eqvAll]
  | x :: xs, [] => by simp [PyData.eqvAll]
  | x :: xs, y :: ys => by
    show (PyData.eqv (p x) (p y) && PyData.eqvAll (xs.map p) (ys.map p)) = _
    rw [h, eqvAll_map h xs ys, Bool.eq_iff_iff]
    simp
theorem toPs_map {α : Type} {f : α → D} {p : α → PyData} {m : Mem} {n : Nat} (h : ∀ x, toP m n (f x) = some (p x)) (xs : List α) : mapO (toP m n) (xs.map f) = some (xs.map p) := mapO_map (f := toP m n) (g := f) (h := p) h xs
theorem Enc.tup {α : Type} [DecidableEq α] {f : α → D} {k : Nat} (h : Enc f k) : Enc (fun xs : List α => .tup (xs.map f)) (k + 1) := by
  obtain ⟨p, h1, h2⟩ := h.ex
  exact ⟨fun xs => .tuple (xs.map p), fun m n xs => by
    show (mapO (toP m (n + k)) (xs.map f)).map _ = _
    rw [toPs_map (h1 m n)]; rfl, fun xs ys => eqvAll_map h2 xs ys⟩
theorem Enc.lst {α : Type} [DecidableEq α] {f : α → D} {k : Nat} (h : Enc f k) : Enc (fun xs : List α => .lst (xs.map f)) (k + 1) := by
  obtain ⟨p, h1, h2⟩ := h.ex
  exact ⟨fun xs => .list (xs.map p), fun m n xs => by
    show (mapO (toP m (n + k)) (xs.map f)).map _ = _
    rw [toPs_map (h1 m n)]; rfl, fun xs ys => eqvAll_map h2 xs ys⟩
theorem Enc.up {α : Type} [DecidableEq α] {f : α → D} {k j : Nat} (h : Enc f k) (hj : k ≤ j) : Enc f j := by
  obtain ⟨p, h1, h2⟩ := h.ex
  exact ⟨p, fun m n x => by rw [show n + j = (n + (j - k)) + k by omega]; exact h1 m _ x, h2⟩
theorem Enc.of {α β : Type} [DecidableEq α] [DecidableEq β] {f : α → D} {k : Nat} (h : Enc f k) (g : β → α) (hg : ∀ x y, g x = g y → x = y) : Enc (fun x => f (g x)) k := by
  obtain ⟨p, h1, h2⟩ := h.ex
  exact ⟨fun x => p (g x), fun m n x => h1 m n _, fun x y => by
    rw [h2, Bool.eq_iff_iff]
    simp
    exact ⟨hg x y, fun e => by rw [e]⟩⟩
/-- the comparison itself -/
theorem Enc.eq {α : Type} [DecidableEq α] {f : α → D} {k : Nat} (h : Enc f k) (hk : k ≤ 60) (x y : α) (hf : flatD (f x) = none) (neg : Bool) (m : Mem) : gEq neg (f x) (f y) m = .ok (.bl (decide (x = y) ^^ neg)) m := by
  obtain ⟨p, h1, h2⟩ := h.ex
  have e1 := fun x => h1 m (60 - k) x
  rw [show 60 - k + k = 60 by omega] at e1
  unfold gEq
  rw [hf]
  simp only
  unfold eqDeep
  rw [e1, e1]
  simp only [h2]
/-! ### heaps that stand in a map -/
section
variable {m : Mem} {c : Cha} {x : Hea} {P : D → Mem → Prop}
structure Stn (r : Rows') (h : Hea) (L : Nat → Int) : Prop where
  lev : IsLev r (eAt (effL h)) L
  pos : ∀ a, a < r.length → 0 ≤ h.s + L a
  en : Enough r h (cntH h L)
def Stands (r : Rows') (h : Hea) : Prop := ∃ L, Stn r h L
theorem Stn.congr {r : Rows'} {w : Nat} {h : Hea} {L L' : Nat → Int} (ok : OkRows w r) (s : Stn r h L) (hL : IsLev r (eAt (effL h)) L') : Stn r h L' :=
  ⟨hL, fun a ha => by rw [hL.uniq s.lev (ok.com a ha)]; exact s.pos a ha, fun a k b hw => by
    have := s.en a k b hw
    unfold cntH at *
    rw [hL.uniq s.lev (ok.com a (way_wid ok.wid hw).1)]
    exact this⟩
end
end Y
end Mir

/-! Mir: bearing by the law; heaps otherwise. -/
namespace Mir
namespace Y
open PySem PySem.Spec PyProof.Rows L2 Mir
section
variable {m : Mem} {c : Cha} {x : Hea} {i : Nat} {P : D → Mem → Prop}
end
end Y
end Mir

/-! Sums and determinants of whole numbers. -/
namespace Sx
def sm : Nat → (Nat → Int) → Int
  | 0, _ => 0
  | n + 1, f => sm n f + f n
theorem sm_congr {f g : Nat → Int} : ∀ {n : Nat}, (∀ i, i < n → f i = g i) → sm n f = sm n g
  | 0, _ => rfl
  | n + 1, h => by
    show sm n f + f n = sm n g + g n
    rw [sm_congr fun i hi => h i (by omega), h n (by omega)]
theorem sm_add (f g : Nat → Int) : ∀ n : Nat, sm n (fun i => f i + g i) = sm n f + sm n g
  | 0 => rfl
  | n + 1 => by
    simp only [sm]
    rw [sm_add f g n]
    omega
theorem sm_mul (c : Int) (f : Nat → Int) : ∀ n : Nat, sm n (fun i => c * f i) = c * sm n f
  | 0 => by simp [sm]
  | n + 1 => by
    show sm n _ + _ = c * (sm n f + f n)
    rw [sm_mul c f n, Int.mul_add]
theorem sm_mulr (c : Int) (f : Nat → Int) (n : Nat) : sm n (fun i => f i * c) = sm n f * c := by
  rw [Int.mul_comm, ← sm_mul]
  exact sm_congr fun i _ => Int.mul_comm _ _
theorem sm_neg (f : Nat → Int) (n : Nat) : sm n (fun i => - f i) = - sm n f := by
  have := sm_mul (-1) f n
  simpa using this
theorem sm_sub (f g : Nat → Int) (n : Nat) : sm n (fun i => f i - g i) = sm n f - sm n g := by
  have : (fun i => f i - g i) = fun i => f i + - g i := by funext i; omega
  rw [this, sm_add, sm_neg]
  omega
theorem sm_zero' {f : Nat → Int} : ∀ {n : Nat}, (∀ i, i < n → f i = 0) → sm n f = 0
  | 0, _ => rfl
  | n + 1, h => by
    show sm n f + f n = 0
    rw [sm_zero' fun i hi => h i (by omega), h n (by omega)]
    rfl
theorem sm_one {f : Nat → Int} {p : Nat} : ∀ {n : Nat}, p < n → (∀ i, i < n → i ≠ p → f i = 0) → sm n f = f p
  | 0, h, _ => absurd h (by omega)
  | n + 1, h, k => by
    show sm n f + f n = f p
    by_cases e : p = n
    · subst e
      rw [sm_zero' fun i hi => k i (by omega) (by omega)]
      omega
    · rw [sm_one (p := p) (by omega) fun i hi => k i (by omega), k n (by omega) (by omega)]
      omega
theorem sm_comm (f : Nat → Nat → Int) (m : Nat) : ∀ n : Nat, sm n (fun i => sm m (f i)) = sm m (fun j => sm n fun i => f i j)
  | 0 => (sm_zero' fun _ _ => rfl).symm
  | n + 1 => by
    show sm n _ + sm m (f n) = sm m _
    rw [sm_comm f m n, ← sm_add]
    rfl
theorem sm_le {f g : Nat → Int} : ∀ {n : Nat}, (∀ i, i < n → f i ≤ g i) → sm n f ≤ sm n g
  | 0, _ => Int.le_refl _
  | n + 1, h => by
    show sm n f + f n ≤ sm n g + g n
    have := sm_le (n := n) (f := f) (g := g) fun i hi => h i (by omega)
    have := h n (by omega)
    omega
theorem sm_nonneg {f : Nat → Int} {n : Nat} (h : ∀ i, i < n → 0 ≤ f i) : 0 ≤ sm n f := by
  have := sm_le (f := fun _ => 0) (g := f) h
  rwa [sm_zero' fun _ _ => rfl] at this
theorem sm_const (c : Int) : ∀ n : Nat, sm n (fun _ => c) = n * c
  | 0 => by simp [sm]
  | n + 1 => by
    show sm n _ + c = _
    rw [sm_const c n, Int.natCast_add, Int.add_mul]
    simp
theorem sm_abs (f : Nat → Int) : ∀ n : Nat, ((sm n f).natAbs : Int) ≤ sm n fun i => ((f i).natAbs : Int)
  | 0 => Int.le_refl _
  | n + 1 => by
    have := sm_abs f n
    simp only [sm]
    omega
theorem sm_split (f : Nat → Int) (a : Nat) : ∀ b : Nat, sm (a + b) f = sm a f + sm b fun i => f (a + i)
  | 0 => by simp [sm]
  | b + 1 => by
    have h := sm_split f a b
    have e1 : sm (a + (b + 1)) f = sm (a + b) f + f (a + b) := rfl
    have e2 : sm (b + 1) (fun i => f (a + i)) = sm b (fun i => f (a + i)) + f (a + b) := rfl
    rw [e1, e2, h, Int.add_assoc]
/-- the sum of what stands at one place -/
theorem sm_at {n p : Nat} (h : p < n) (c : Int) (f : Nat → Int) : sm n (fun i => (if i = p then c else 0) * f i) = c * f p := by
  rw [sm_one (p := p) h]
  · simp
  · intro i _ hi
    simp [hi]
/-! ### determinants -/
def sg (k : Nat) : Int := if k % 2 = 0 then 1 else -1
theorem sg_succ (k : Nat) : sg (k + 1) = - sg k := by
  unfold sg
  by_cases h : k % 2 = 0
  · rw [if_pos h, if_neg (by omega)]
  · rw [if_neg h, if_pos (by omega)]; rfl
theorem sg_two (k : Nat) : sg (k + k) = 1 := by unfold sg; rw [if_pos (by omega)]
theorem sg_abs (k : Nat) : (sg k).natAbs = 1 := by unfold sg; split <;> rfl
abbrev Vs := Nat → Nat → Int
def skip (i : Nat) (v : Vs) : Vs := fun j => if j < i then v j else v (j + 1)
def det : Nat → Vs → Int
  | 0, _ => 1
  | n + 1, v => sm (n + 1) fun i => sg (n + i) * v i n * det n (skip i v)
def upd {α : Type} (v : Nat → α) (p : Nat) (x : α) : Nat → α := fun j => if j = p then x else v j
theorem upd_self {α : Type} (v : Nat → α) (p : Nat) (x : α) : upd v p x p = x := if_pos rfl
theorem upd_ne {α : Type} (v : Nat → α) {p j : Nat} (x : α) (h : j ≠ p) : upd v p x j = v j := if_neg h
theorem upd_id {α : Type} (v : Nat → α) (p : Nat) : upd v p (v p) = v := by
  funext j
  unfold upd
  split
  · rename_i h; rw [h]
  · rfl
theorem upd_comm {α : Type} (v : Nat → α) {p q : Nat} (h : p ≠ q) (x y : α) : upd (upd v p x) q y = upd (upd v q y) p x := by
  funext j
  unfold upd
  by_cases h1 : j = q
  · rw [if_pos h1, if_neg (by omega), if_pos h1]
  · rw [if_neg h1]
    by_cases h2 : j = p
    · rw [if_pos h2, if_pos h2]
    · rw [if_neg h2, if_neg h2, if_neg h1]
theorem skip_lt {i p : Nat} (h : p < i) (v : Vs) (x : Nat → Int) : skip i (upd v p x) = upd (skip i v) p x := by
  funext j
  simp only [skip, upd]
  by_cases h1 : j < i
  · rw [if_pos h1, if_pos h1]
  · rw [if_neg h1, if_neg h1, if_neg (by omega), if_neg (by omega)]
theorem skip_gt {i p : Nat} (h : i < p) (v : Vs) (x : Nat → Int) : skip i (upd v p x) = upd (skip i v) (p - 1) x := by
  funext j
  simp only [skip, upd]
  by_cases h1 : j < i
  · rw [if_pos h1, if_pos h1, if_neg (by omega), if_neg (by omega)]
  · rw [if_neg h1, if_neg h1]
    by_cases h2 : j = p - 1
    · rw [if_pos h2, if_pos (by omega)]
    · rw [if_neg h2, if_neg (by omega)]
theorem skip_eq (i : Nat) (v : Vs) (x : Nat → Int) : skip i (upd v i x) = skip i v := by
  funext j
  simp only [skip, upd]
  by_cases h1 : j < i
  · rw [if_pos h1, if_pos h1, if_neg (by omega)]
  · rw [if_neg h1, if_neg h1, if_neg (by omega)]
theorem det_congr : ∀ {n : Nat} {v w : Vs}, (∀ i j, i < n → j < n → v i j = w i j) → det n v = det n w
  | 0, _, _, _ => rfl
  | n + 1, v, w, h => by
    show sm (n + 1) _ = sm (n + 1) _
    refine sm_congr fun i hi => ?_
    rw [h i n hi (by omega), det_congr (n := n) (v := skip i v) (w := skip i w)]
    intro a b ha hb
    unfold skip
    split
    · exact h a b (by omega) (by omega)
    · exact h (a + 1) b (by omega) (by omega)
theorem det_lin : ∀ {n p : Nat} (v : Vs) (x y : Nat → Int) (c : Int), p < n → det n (upd v p fun j => c * x j + y j) = c * det n (upd v p x) + det n (upd v p y)
  | 0, p, v, x, y, c, h => absurd h (by omega)
  | n + 1, p, v, x, y, c, h => by
    show sm (n + 1) _ = c * sm (n + 1) _ + sm (n + 1) _
    rw [← sm_mul, ← sm_add]
    refine sm_congr fun i hi => ?_
    by_cases e : i = p
    · subst e
      simp only [upd_self, skip_eq, Int.mul_add, Int.add_mul]
      congr 1
      simp only [Int.mul_assoc, Int.mul_left_comm]
    · simp only [upd_ne _ _ e]
      by_cases l : p < i
      · simp only [skip_lt l]
        rw [det_lin (n := n) (skip i v) x y c (by omega), Int.mul_add]
        congr 1
        simp only [Int.mul_assoc, Int.mul_left_comm]
      · have l' : i < p := by omega
        simp only [skip_gt l']
        rw [det_lin (n := n) (skip i v) x y c (by omega), Int.mul_add]
        congr 1
        simp only [Int.mul_assoc, Int.mul_left_comm]
theorem det_zero {n p : Nat} (v : Vs) (h : p < n) : det n (upd v p fun _ => 0) = 0 := by
  have := det_lin v (fun _ => 0) (fun _ => 0) 1 h
  simp only [Int.mul_zero, Int.zero_add, Int.one_mul] at this
  omega
theorem det_smul {n p : Nat} (v : Vs) (x : Nat → Int) (c : Int) (h : p < n) : det n (upd v p fun j => c * x j) = c * det n (upd v p x) := by
  have := det_lin v x (fun _ => 0) c h
  simp only [Int.add_zero] at this
  rw [this, det_zero v h, Int.add_zero]
theorem det_add {n p : Nat} (v : Vs) (x y : Nat → Int) (h : p < n) : det n (upd v p fun j => x j + y j) = det n (upd v p x) + det n (upd v p y) := by
  have := det_lin v x y 1 h
  simpa using this
theorem det_sum {n p : Nat} (v : Vs) (c : Nat → Int) (w : Vs) (h : p < n) : ∀ m : Nat, det n (upd v p fun j => sm m fun i => c i * w i j) = sm m fun i => c i * det n (upd v p (w i))
  | 0 => by
    show det n (upd v p fun _ => 0) = 0
    exact det_zero v h
  | m + 1 => by
    have e : (fun j => sm (m + 1) fun i => c i * w i j) = fun j => c m * w m j + sm m fun i => c i * w i j := by
      funext j
      simp only [sm]
      omega
    rw [e, det_lin v (w m) _ (c m) h, det_sum v c w h m]
    simp only [sm]
    omega
theorem det_adj : ∀ {n p : Nat} {v : Vs}, p + 1 < n → v p = v (p + 1) → det n v = 0
  | 0, p, v, h, _ => absurd h (by omega)
  | n + 1, p, v, h, e => by
    show sm (n + 1) _ = 0
    have hs : skip p v = skip (p + 1) v := by
      funext j
      unfold skip
      by_cases h1 : j < p
      · rw [if_pos h1, if_pos (by omega)]
      · rw [if_neg h1]
        by_cases h2 : j < p + 1
        · rw [if_pos h2, show j = p by omega, e]
        · rw [if_neg h2]
    have hz : ∀ i, i < n + 1 → i ≠ p → i ≠ p + 1 → sg (n + i) * v i n * det n (skip i v) = 0 := by
      intro i hi h1 h2
      by_cases l : i < p
      · rw [det_adj (n := n) (p := p - 1) (by omega) (v := skip i v), Int.mul_zero]
        unfold skip
        rw [if_neg (by omega), if_neg (by omega), show p - 1 + 1 = p by omega, e]
      · rw [det_adj (n := n) (p := p) (by omega) (v := skip i v), Int.mul_zero]
        unfold skip
        rw [if_pos (by omega), if_pos (by omega), e]
    have hsplit : (fun i => sg (n + i) * v i n * det n (skip i v)) = fun i => (if i = p then sg (n + p) * v p n * det n (skip p v) else 0) + (if i = p then 0 else sg (n + i) * v i n * det n (skip i v)) := by
      funext i
      by_cases hi : i = p
      · simp [hi]
      · simp [hi]
    rw [hsplit, sm_add, sm_one (p := p) (by omega) (fun i _ hi => if_neg hi), sm_one (p := p + 1) (by omega) (fun i hi h2 => by
      by_cases h1 : i = p
      · rw [if_pos h1]
      · rw [if_neg h1]; exact hz i hi h1 h2)]
    rw [if_pos rfl, if_neg (by omega), hs, e, show n + (p + 1) = n + p + 1 by omega, sg_succ]
    simp only [Int.neg_mul]
    omega
def swp (v : Vs) (p q : Nat) : Vs := upd (upd v p (v q)) q (v p)
theorem det_swap_of {n p q : Nat} (hp : p < n) (hq : q < n) (hpq : p ≠ q) (h0 : ∀ v : Vs, v p = v q → det n v = 0) (v : Vs) : det n (swp v p q) = - det n v := by
  have h := h0 (upd (upd v p fun j => v p j + v q j) q fun j => v p j + v q j) (by rw [upd_self, upd_ne _ _ hpq, upd_self])
  rw [det_add _ _ _ hq, upd_comm _ hpq, upd_comm _ hpq, det_add _ _ _ hp, det_add _ _ _ hp] at h
  have e1 := h0 (upd (upd v q (v p)) p (v p)) (by rw [upd_self, upd_ne _ _ (Ne.symm hpq), upd_self])
  have e2 := h0 (upd (upd v q (v q)) p (v q)) (by rw [upd_self, upd_ne _ _ (Ne.symm hpq), upd_self])
  have e3 : upd (upd v q (v q)) p (v p) = v := by rw [upd_id, upd_id]
  have e4 : swp v p q = upd (upd v q (v p)) p (v q) := by unfold swp; rw [upd_comm _ hpq]
  rw [e1, e2, e3] at h
  rw [e4]
  omega
theorem det_two : ∀ (d : Nat) {n p : Nat} {v : Vs}, p + d + 1 < n → v p = v (p + d + 1) → det n v = 0
  | 0, n, p, v, h, e => det_adj h e
  | d + 1, n, p, v, h, e => by
    have hs := det_swap_of (n := n) (p := p + d + 1) (q := p + d + 2) (by omega) (by omega) (by omega) (fun v e => det_adj (p := p + d + 1) (by omega) e) v
    have := det_two d (n := n) (p := p) (v := swp v (p + d + 1) (p + d + 2)) (by omega) (by
      unfold swp
      rw [upd_ne _ _ (by omega), upd_ne _ _ (by omega), upd_ne _ _ (by omega), upd_self]
      exact e)
    omega
theorem det_same {n p q : Nat} {v : Vs} (hp : p < n) (hq : q < n) (hpq : p ≠ q) (e : v p = v q) : det n v = 0 := by
  by_cases l : p < q
  · exact det_two (q - p - 1) (n := n) (p := p) (by omega) (by rw [show p + (q - p - 1) + 1 = q by omega]; exact e)
  · exact det_two (p - q - 1) (n := n) (p := q) (by omega) (by rw [show q + (p - q - 1) + 1 = p by omega]; exact e.symm)
theorem det_swap {n p q : Nat} (hp : p < n) (hq : q < n) (hpq : p ≠ q) (v : Vs) : det n (swp v p q) = - det n v :=
  det_swap_of hp hq hpq (fun _ e => det_same hp hq hpq e) v
def idV : Vs := fun i j => if i = j then 1 else 0
theorem det_id : ∀ n : Nat, det n idV = 1
  | 0 => rfl
  | n + 1 => by
    show sm (n + 1) _ = 1
    rw [sm_one (p := n) (by omega) (fun i _ hi => by simp [idV, hi])]
    rw [sg_two, det_congr (w := idV) (n := n) (fun i j hi _ => by unfold skip; rw [if_pos hi]), det_id n]
    simp [idV]
/-- Cramer: a combination put in the place of one -/
theorem cramer {n p : Nat} {v : Vs} {x c : Nat → Int} {u : Int} (hp : p < n) (h : ∀ j, j < n → u * x j = sm n fun i => c i * v i j) : u * det n (upd v p x) = c p * det n v := by
  rw [← det_smul v x u hp, det_congr (w := upd v p fun j => sm n fun i => c i * v i j)]
  · rw [det_sum v c v hp, sm_one (p := p) hp, upd_id]
    intro i hi hn
    rw [det_same (p := i) (q := p) hi hp hn, Int.mul_zero]
    rw [upd_self, upd_ne _ _ hn]
  · intro i j _ hj
    unfold upd
    split
    · exact h j hj
    · rfl
theorem indep {n : Nat} {v : Vs} {c : Nat → Int} (hd : det n v ≠ 0) (h : ∀ j, j < n → sm n (fun i => c i * v i j) = 0) {p : Nat} (hp : p < n) : c p = 0 := by
  have := cramer (v := v) (x := fun _ => 0) (c := c) (u := 0) hp (fun j hj => by rw [h j hj]; simp)
  rw [Int.zero_mul] at this
  rcases Int.mul_eq_zero.mp this.symm with h | h
  · exact h
  · exact absurd h hd
def fac : Nat → Nat
  | 0 => 1
  | n + 1 => (n + 1) * fac n
theorem det_le {b : Nat} : ∀ {n : Nat} {v : Vs}, (∀ i j, i < n → j < n → (v i j).natAbs ≤ b) → (det n v).natAbs ≤ fac n * b ^ n
  | 0, _, _ => by simp [det, fac]
  | n + 1, v, h => by
    have h1 := sm_abs (fun i => sg (n + i) * v i n * det n (skip i v)) (n + 1)
    have h2 : sm (n + 1) (fun i => ((sg (n + i) * v i n * det n (skip i v)).natAbs : Int)) ≤ sm (n + 1) fun _ => ((b * (fac n * b ^ n) : Nat) : Int) := sm_le fun i hi => by
      rw [Int.natAbs_mul, Int.natAbs_mul, sg_abs, Nat.one_mul]
      have h3 := h i n hi (by omega)
      have h4 := det_le (b := b) (n := n) (v := skip i v) (fun a c ha hc => by
        unfold skip
        split
        · exact h a c (by omega) (by omega)
        · exact h (a + 1) c (by omega) (by omega))
      exact Int.ofNat_le.mpr (Nat.mul_le_mul h3 h4)
    rw [sm_const] at h2
    have h5 : ((det (n + 1) v).natAbs : Int) ≤ ((n + 1 : Nat) : Int) * ((b * (fac n * b ^ n) : Nat) : Int) := Int.le_trans h1 h2
    rw [← Int.natCast_mul] at h5
    have h6 := Int.ofNat_le.mp h5
    refine Nat.le_trans h6 (Nat.le_of_eq ?_)
    show _ = (n + 1) * fac n * b ^ (n + 1)
    rw [Nat.pow_succ]
    simp only [Nat.mul_assoc, Nat.mul_comm, Nat.mul_left_comm]
end Sx

/-! Tableaus of whole numbers: a pivot keeps them whole. -/
namespace Sx
theorem sm_two {f : Nat → Int} {n p q : Nat} (hp : p < n) (hq : q < n) (hpq : p ≠ q) (h : ∀ i, i < n → i ≠ p → i ≠ q → f i = 0) : sm n f = f p + f q := by
  have e : f = fun i => (if i = p then f p else 0) + (if i = p then 0 else f i) := by
    funext i
    by_cases hi : i = p
    · simp [hi]
    · simp [hi]
  have e' : sm n f = sm n (fun i => (if i = p then f p else 0) + (if i = p then 0 else f i)) := congrArg _ e
  rw [e', sm_add, sm_one (p := p) hp (fun i _ hi => if_neg hi), sm_one (p := q) hq (fun i hi h2 => by
    by_cases h1 : i = p
    · rw [if_pos h1]
    · rw [if_neg h1]; exact h i hi h1 h2)]
  rw [if_pos rfl, if_neg (Ne.symm hpq)]
structure Tab where
  R : Nat → Nat → Int
  u : Int
  b : Nat → Nat
def bv (M : Vs) (m : Nat) (b : Nat → Nat) : Vs := fun i => if i < m then fun j => M j (b i) else fun j => if j = m then 1 else 0
theorem bv_lt {M : Vs} {m i : Nat} {b : Nat → Nat} (h : i < m) : bv M m b i = fun j => M j (b i) := if_pos h
theorem bv_m (M : Vs) (m : Nat) (b : Nat → Nat) : bv M m b m = fun j => if j = m then 1 else 0 := if_neg (by omega)
structure Good (M : Vs) (m C : Nat) (T : Tab) : Prop where
  pos : 0 < T.u
  comb : ∀ c j, c < C → j < m + 1 → T.u * M j c = sm (m + 1) fun i => T.R i c * bv M m T.b i j
  unit : ∃ s : Int, s * s = 1 ∧ T.u = s * det (m + 1) (bv M m T.b)
  bas : ∀ i, i < m → T.b i < C
section
variable {M : Vs} {m C : Nat} {T : Tab}
theorem Good.ne (g : Good M m C T) : det (m + 1) (bv M m T.b) ≠ 0 := by
  intro h
  obtain ⟨s, _, e⟩ := g.unit
  have := g.pos
  rw [e, h, Int.mul_zero] at this
  omega
theorem Good.entry (g : Good M m C T) {s : Int} (hs : s * s = 1) (hu : T.u = s * det (m + 1) (bv M m T.b)) {i c : Nat} (hi : i < m + 1) (hc : c < C) : T.R i c = s * det (m + 1) (upd (bv M m T.b) i fun j => M j c) := by
  have h := cramer (v := bv M m T.b) (x := fun j => M j c) (c := fun i => T.R i c) (u := T.u) hi (fun j hj => g.comb c j hc hj)
  have hd : det (m + 1) (bv M m T.b) = s * T.u := by rw [hu, ← Int.mul_assoc, hs, Int.one_mul]
  rw [hd] at h
  have hp := g.pos
  have : T.u * (T.R i c) = T.u * (s * det (m + 1) (upd (bv M m T.b) i fun j => M j c)) := by
    rw [Int.mul_left_comm, h, ← Int.mul_assoc, Int.mul_comm s, Int.mul_assoc, ← Int.mul_assoc s, hs, Int.one_mul, Int.mul_comm]
  exact Int.eq_of_mul_eq_mul_left (by omega) this
theorem Good.basic (g : Good M m C T) {i k : Nat} (hi : i < m + 1) (hk : k < m) : T.R i (T.b k) = if i = k then T.u else 0 := by
  have h : T.R i (T.b k) - (if i = k then T.u else 0) = 0 := indep (c := fun i => T.R i (T.b k) - (if i = k then T.u else 0)) g.ne (fun j hj => by
    simp only [Int.sub_mul]
    rw [sm_sub, sm_at (p := k) (by omega), ← g.comb _ j (g.bas k hk) hj, bv_lt hk]
    exact Int.sub_self _) hi
  omega
/-- a step from one tableau to the next -/
structure Piv (m C : Nat) (T T' : Tab) (p q : Nat) : Prop where
  hp : p < m
  hq : q < C
  by' : 0 < T.R p q
  u : T'.u = T.R p q
  b : ∀ i, i < m → T'.b i = upd T.b p q i
  own : ∀ c, c < C → T'.R p c = T.R p c
  row : ∀ k c, k < m + 1 → k ≠ p → c < C → T'.R k c = (T.R k c * T.R p q - T.R k q * T.R p c) / T.u
theorem exact' (g : Good M m C T) {p q k c : Nat} (hp : p < m) (hq : q < C) (hk : k < m + 1) (hkp : k ≠ p) (hc : c < C) : ∃ N : Int, T.u * N = T.R k c * T.R p q - T.R k q * T.R p c := by
  obtain ⟨s, hs, hu⟩ := g.unit
  have hpos := g.pos
  have cmb := g.comb
  generalize hv : bv M m T.b = v at *
  have hp1 : p < m + 1 := by omega
  generalize hvv : upd v p (fun j => M j q) = v'
  have hv'p : v' p = fun j => M j q := by rw [← hvv, upd_self]
  have hv' : ∀ i, i ≠ p → v' i = v i := fun i hi => by rw [← hvv, upd_ne _ _ hi]
  have c1 : T.u * det (m + 1) v' = T.R p q * det (m + 1) v := by
    rw [← hvv]
    exact cramer (c := fun i => T.R i q) hp1 fun j hj => cmb q j hq hj
  have e1 : T.u * det (m + 1) (upd v' k fun j => M j c) = sm (m + 1) fun i => T.R i c * det (m + 1) (upd v' k (v i)) := by
    rw [← det_smul v' _ _ hk, det_congr (w := upd v' k fun j => sm (m + 1) fun i => T.R i c * v i j), det_sum v' _ _ hk]
    intro i j _ hj
    unfold upd
    split
    · exact cmb c j hc hj
    · rfl
  have e2 : T.u * det (m + 1) (upd v' k (v p)) = - (T.R k q * det (m + 1) v) := by
    have w1 : upd v' k (v p) = upd (upd v k (v p)) p fun j => M j q := by rw [← hvv, upd_comm _ (Ne.symm hkp)]
    rw [w1, ← det_smul _ _ _ hp1, det_congr (w := upd (upd v k (v p)) p fun j => sm (m + 1) fun i => T.R i q * v i j), det_sum _ _ _ hp1, sm_one (p := k) hk]
    · have : upd (upd v k (v p)) p (v k) = swp v k p := rfl
      rw [this, det_swap hk hp1 hkp]
      exact Int.mul_neg _ _
    · intro i hi hik
      by_cases h : i = p
      · subst h
        rw [det_same (p := k) (q := i) hk hi hkp, Int.mul_zero]
        rw [upd_self, upd_ne _ _ hkp, upd_self]
      · rw [det_same (p := i) (q := p) hi hp1 h, Int.mul_zero]
        rw [upd_self, upd_ne _ _ h, upd_ne _ _ hik]
    · intro i j _ hj
      unfold upd
      split
      · exact cmb q j hq hj
      · rfl
  rw [sm_two (p := k) (q := p) hk hp1 hkp] at e1
  · have e3 : upd v' k (v k) = v' := by rw [← hv' k hkp, upd_id]
    rw [e3] at e1
    refine ⟨s * det (m + 1) (upd v' k fun j => M j c), ?_⟩
    have h : T.u * (T.u * det (m + 1) (upd v' k fun j => M j c)) = (T.R k c * T.R p q - T.R k q * T.R p c) * det (m + 1) v := by
      rw [e1, Int.mul_add, Int.mul_left_comm, c1, Int.mul_left_comm T.u, e2, Int.sub_mul, Int.mul_neg, ← Int.mul_assoc, ← Int.mul_assoc, Int.mul_comm (T.R p c) (T.R k q)]
      omega
    have h2 : T.u * (T.u * (s * det (m + 1) (upd v' k fun j => M j c))) = T.u * (T.R k c * T.R p q - T.R k q * T.R p c) := by
      rw [Int.mul_left_comm T.u s, Int.mul_left_comm T.u s, h]
      rw [Int.mul_left_comm s, ← hu, Int.mul_comm]
    exact Int.eq_of_mul_eq_mul_left (by omega) h2
  · intro i hi h1 h2
    rw [det_same (p := i) (q := k) hi hk h1, Int.mul_zero]
    rw [upd_self, upd_ne _ _ h1, hv' i h2]
theorem Piv.ex {T' : Tab} {p q : Nat} (v : Piv m C T T' p q) (g : Good M m C T) {k c : Nat} (hk : k < m + 1) (hkp : k ≠ p) (hc : c < C) : T.u * T'.R k c = T.R k c * T.R p q - T.R k q * T.R p c := by
  obtain ⟨N, hN⟩ := exact' g v.hp v.hq hk hkp hc
  have hp := g.pos
  rw [v.row k c hk hkp hc, ← hN, Int.mul_ediv_cancel_left N (by omega)]
theorem Piv.good {T' : Tab} {p q : Nat} (v : Piv m C T T' p q) (g : Good M m C T) : Good M m C T' := by
  have hp1 : p < m + 1 := Nat.lt_succ_of_lt v.hp
  have hpos := g.pos
  have hbv : ∀ i j, i < m + 1 → j < m + 1 → bv M m T'.b i j = upd (bv M m T.b) p (fun j => M j q) i j := fun i j hi _ => by
    by_cases h : i < m
    · rw [bv_lt h, v.b i h]
      by_cases h2 : i = p
      · rw [h2, upd_self, upd_self]
      · rw [upd_ne _ _ h2, upd_ne _ _ h2, bv_lt h]
    · rw [show i = m by omega, bv_m, upd_ne _ _ (by have := v.hp; omega), bv_m]
  refine ⟨by rw [v.u]; exact v.by', fun c j hc hj => ?_, ?_, fun i hi => ?_⟩
  · have hb : ∀ i, i < m + 1 → bv M m T'.b i j = upd (bv M m T.b) p (fun j => M j q) i j := fun i hi => hbv i j hi hj
    rw [sm_congr fun i hi => by rw [hb i hi]]
    have h1 := g.comb c j hc hj
    have h2 := g.comb q j v.hq hj
    -- times T.u
    have key : T.u * sm (m + 1) (fun i => T'.R i c * upd (bv M m T.b) p (fun j => M j q) i j) = T.u * (T.R p q * M j c) := by
      rw [← sm_mul]
      have : ∀ i, i < m + 1 → T.u * (T'.R i c * upd (bv M m T.b) p (fun j => M j q) i j) = (T.R p q * (T.R i c * bv M m T.b i j) - T.R p c * (T.R i q * bv M m T.b i j)) + (if i = p then T.R p c * (T.u * M j q) else 0) * 1 := fun i hi => by
        by_cases e : i = p
        · subst e
          rw [upd_self, if_pos rfl, v.own c hc, Int.mul_one]
          have : T.R i q * (T.R i c * bv M m T.b i j) - T.R i c * (T.R i q * bv M m T.b i j) = 0 := by rw [Int.mul_left_comm]; omega
          rw [this, Int.mul_left_comm]
          omega
        · rw [upd_ne _ _ e, if_neg e, ← Int.mul_assoc, v.ex g hi e hc, Int.sub_mul, Int.zero_mul, Int.add_zero, Int.mul_comm (T.R i c), Int.mul_comm (T.R i q), Int.mul_assoc, Int.mul_assoc]
      rw [sm_congr this, sm_add, sm_sub, sm_mul, sm_mul, ← h1, ← h2, sm_at hp1 _ (fun _ => 1), Int.mul_one, Int.mul_left_comm]
      omega
    rw [v.u]
    exact (Int.eq_of_mul_eq_mul_left (by omega) key).symm
  · obtain ⟨s, hs, hu⟩ := g.unit
    refine ⟨s, hs, ?_⟩
    rw [det_congr hbv, v.u]
    exact g.entry hs hu hp1 v.hq
  · rw [v.b i hi]
    unfold upd
    split
    · exact v.hq
    · exact g.bas i hi
/-- of one basis there is one tableau -/
theorem Good.uniq {T' : Tab} (g : Good M m C T) (g' : Good M m C T') (hb : ∀ i, i < m → T.b i = T'.b i) : T.u = T'.u ∧ ∀ i c, i < m + 1 → c < C → T.R i c = T'.R i c := by
  have hbv : bv M m T.b = bv M m T'.b := by
    funext i
    unfold bv
    by_cases h : i < m
    · rw [if_pos h, if_pos h, hb i h]
    · rw [if_neg h, if_neg h]
  obtain ⟨s, hs, hu⟩ := g.unit
  obtain ⟨s', hs', hu'⟩ := g'.unit
  rw [← hbv] at hu'
  have e : s = s' := by
    have h1 := g.pos
    have h2 := g'.pos
    have a1 : s = 1 ∨ s = -1 := by
      have : s.natAbs * s.natAbs = 1 := by rw [← Int.natAbs_mul, hs]; rfl
      have := Nat.eq_one_of_mul_eq_one_left this
      omega
    have a2 : s' = 1 ∨ s' = -1 := by
      have : s'.natAbs * s'.natAbs = 1 := by rw [← Int.natAbs_mul, hs']; rfl
      have := Nat.eq_one_of_mul_eq_one_left this
      omega
    rcases a1 with rfl | rfl <;> rcases a2 with rfl | rfl <;> omega
  subst e
  refine ⟨hu.trans hu'.symm, fun i c hi hc => ?_⟩
  rw [g.entry hs hu hi hc, g'.entry hs (by rw [← hbv]; exact hu') hi hc, hbv]
/-- the first tableau -/
theorem Good.first (h : ∀ i j, i < m → j < m + 1 → M j (T.b i) = if i = j then 1 else 0) (hb : ∀ i, i < m → T.b i < C) (hu : T.u = 1) (hR : ∀ i c, i < m + 1 → c < C → T.R i c = M i c) : Good M m C T := by
  have hv : ∀ i j, i < m + 1 → j < m + 1 → bv M m T.b i j = idV i j := fun i j hi hj => by
    unfold bv idV
    by_cases hm : i < m
    · rw [if_pos hm, h i j hm hj]
    · rw [if_neg hm, show i = m by omega]
      by_cases e : j = m
      · rw [if_pos e, if_pos e.symm]
      · rw [if_neg e, if_neg (Ne.symm e)]
  refine ⟨by rw [hu]; decide, fun c j hc hj => ?_, ⟨1, rfl, ?_⟩, hb⟩
  · rw [sm_congr (fun i hi => by rw [hv i j hi hj]), sm_one (p := j) hj, hR j c hj hc, hu]
    · simp [idV]
    · intro i _ hi
      simp [idV, hi]
  · rw [det_congr hv, det_id, hu]
    rfl
theorem Good.bound (g : Good M m C T) {B : Nat} (hB : ∀ j c, j < m + 1 → c < C → (M j c).natAbs ≤ B) (h1 : 1 ≤ B) {i c : Nat} (hi : i < m + 1) (hc : c < C) : (T.R i c).natAbs ≤ fac (m + 1) * B ^ (m + 1) := by
  obtain ⟨s, hs, hu⟩ := g.unit
  rw [g.entry hs hu hi hc, Int.natAbs_mul]
  have : s.natAbs = 1 := by
    have : s.natAbs * s.natAbs = 1 := by rw [← Int.natAbs_mul, hs]; rfl
    exact Nat.eq_one_of_mul_eq_one_left this
  rw [this, Nat.one_mul]
  refine det_le fun a j ha hj => ?_
  unfold upd
  split
  · exact hB j c hj hc
  · unfold bv
    split
    · rename_i h
      exact hB j _ hj (g.bas a h)
    · show (if j = m then (1 : Int) else 0).natAbs ≤ B
      split
      · exact h1
      · exact Nat.zero_le _
end
end Sx

/-! The search: it comes to an end, and what it tells. -/
namespace Sx
theorem sm_all0 {f : Nat → Int} : ∀ {n : Nat}, (∀ i, i < n → 0 ≤ f i) → sm n f = 0 → ∀ i, i < n → f i = 0
  | 0, _, _, i, hi => absurd hi (by omega)
  | n + 1, h, e, i, hi => by
    simp only [sm] at e
    have h1 := sm_nonneg (n := n) fun i hi => h i (by omega)
    have h2 := h n (by omega)
    by_cases he : i = n
    · subst he; omega
    · exact sm_all0 (n := n) (fun i hi => h i (by omega)) (by omega) i (by omega)
section
variable {M : Vs} {m C : Nat} {T : Tab}
/-- what holds in the rows holds in each tableau -/
theorem Good.sol (g : Good M m C T) {x : Nat → Int} {xw : Int} (h : ∀ j, j < m + 1 → sm C (fun c => x c * M j c) + xw * (if j = m then 1 else 0) = 0) {i : Nat} (hi : i < m + 1) :
    sm C (fun c => x c * T.R i c) + xw * T.u * (if i = m then 1 else 0) = 0 := by
  refine indep (c := fun i => sm C (fun c => x c * T.R i c) + xw * T.u * (if i = m then 1 else 0)) g.ne (fun j hj => ?_) hi
  have e1 : sm (m + 1) (fun i => (sm C (fun c => x c * T.R i c) + xw * T.u * (if i = m then 1 else 0)) * bv M m T.b i j) = sm (m + 1) (fun i => sm C fun c => x c * (T.R i c * bv M m T.b i j)) + sm (m + 1) (fun i => (if i = m then xw * T.u else 0) * bv M m T.b i j) := by
    rw [← sm_add]
    refine sm_congr fun i _ => ?_
    rw [Int.add_mul, ← sm_mulr]
    congr 1
    · exact sm_congr fun c _ => Int.mul_assoc _ _ _
    · by_cases e : i = m
      · rw [if_pos e, if_pos e, Int.mul_one]
      · rw [if_neg e, if_neg e, Int.mul_zero]
  rw [e1, sm_comm, sm_at (p := m) (by omega), bv_m]
  have e2 : sm C (fun c => sm (m + 1) fun i => x c * (T.R i c * bv M m T.b i j)) = T.u * sm C fun c => x c * M j c := by
    rw [← sm_mul]
    refine sm_congr fun c hc => ?_
    rw [sm_mul, ← g.comb c j hc hj, Int.mul_left_comm]
  rw [e2]
  have := h j hj
  have h2 : sm C (fun c => x c * M j c) = - (xw * (if j = m then 1 else 0)) := by omega
  rw [h2]
  simp only [Int.mul_neg, Int.mul_assoc, Int.mul_left_comm T.u]
  omega
theorem Good.row (g : Good M m C T) {x : Nat → Int} {xw : Int} (h : ∀ i, i < m + 1 → sm C (fun c => x c * T.R i c) + xw * T.u * (if i = m then 1 else 0) = 0) {j : Nat} (hj : j < m + 1) :
    sm C (fun c => x c * M j c) + xw * (if j = m then 1 else 0) = 0 := by
  have hp := g.pos
  have key : T.u * (sm C (fun c => x c * M j c) + xw * (if j = m then 1 else 0)) = T.u * 0 := by
    rw [Int.mul_add, ← sm_mul, sm_congr (fun c hc => by rw [Int.mul_left_comm, g.comb c j hc hj, ← sm_mul]), ← sm_comm (fun i c => x c * (T.R i c * bv M m T.b i j))]
    have e : (T.u * (xw * if j = m then 1 else 0)) = sm (m + 1) (fun i => (if i = m then xw * T.u else 0) * bv M m T.b i j) := by
      rw [sm_at (p := m) (by omega), bv_m]
      simp only [Int.mul_assoc, Int.mul_left_comm]
    rw [e, ← sm_add, Int.mul_zero]
    refine sm_zero' fun i hi => ?_
    have := h i hi
    rw [sm_congr (fun c _ => (Int.mul_assoc (x c) (T.R i c) _).symm), sm_mulr, ← Int.add_mul]
    have e2 : (if i = m then xw * T.u else 0) = xw * T.u * (if i = m then 1 else 0) := by
      by_cases e : i = m
      · rw [if_pos e, if_pos e, Int.mul_one]
      · rw [if_neg e, if_neg e, Int.mul_zero]
    rw [e2, this, Int.zero_mul]
  exact Int.eq_of_mul_eq_mul_left (by omega) key
/-- along a column -/
def dir (T : Tab) (m s : Nat) : Nat → Int := fun c => (if c = s then T.u else 0) - sm m fun k => if T.b k = c then T.R k s else 0
theorem dir_sum {n : Nat} (f : Nat → Int) {s : Nat} (hs : s < n) (hb : ∀ k, k < m → T.b k < n) : sm n (fun c => dir T m s c * f c) = T.u * f s - sm m fun k => T.R k s * f (T.b k) := by
  unfold dir
  simp only [Int.sub_mul]
  rw [sm_sub, sm_at hs]
  congr 1
  rw [sm_congr (fun c _ => (sm_mulr (f c) _ m).symm), sm_comm (fun c k => (if T.b k = c then T.R k s else 0) * f c)]
  refine sm_congr fun k hk => ?_
  rw [sm_congr (fun c _ => by rw [show (if T.b k = c then T.R k s else 0) = (if c = T.b k then T.R k s else 0) by
    by_cases e : T.b k = c
    · rw [if_pos e, if_pos e.symm]
    · rw [if_neg e, if_neg (Ne.symm e)]]), sm_at (hb k hk)]
theorem Good.dirs (g : Good M m C T) {s : Nat} (hs : s < C) {j : Nat} (hj : j < m + 1) : sm C (fun c => dir T m s c * M j c) + (- T.R m s) * (if j = m then 1 else 0) = 0 := by
  refine g.row (fun i hi => ?_) hj
  rw [dir_sum _ hs g.bas, sm_congr (fun k hk => by rw [g.basic hi hk])]
  by_cases e : i = m
  · subst e
    rw [if_pos rfl, sm_zero' (fun k hk => by rw [if_neg (by omega), Int.mul_zero]), Int.mul_one, Int.neg_mul, Int.mul_comm]
    omega
  · rw [if_neg e, sm_one (p := i) (by omega) (fun k _ hk => by rw [if_neg (Ne.symm hk), Int.mul_zero]), if_pos rfl, Int.mul_zero, Int.mul_comm]
    omega
theorem Good.two {T' : Tab} (g : Good M m C T) (g' : Good M m C T') {s : Nat} (hs : s < C) : T.u * T'.R m s - sm m (fun k => T.R k s * T'.R m (T.b k)) = T.R m s * T'.u := by
  have h := g'.sol (x := dir T m s) (xw := - T.R m s) (fun j hj => g.dirs hs hj) (i := m) (by omega)
  rw [dir_sum _ hs g.bas, if_pos rfl, Int.mul_one, Int.neg_mul] at h
  omega
end
/-- the rows to begin with: w columns that may come in, m of their own, what is due -/
structure Sys (M : Vs) (m w : Nat) : Prop where
  own : ∀ i k, i < m → k < m → M i (w + k) = if i = k then 1 else 0
  ownL : ∀ k, k < m → M m (w + k) = 0
  last : ∀ c, c < w ∨ c = w + m → M m c = - sm m fun i => M i c
  due : ∀ i, i < m → 0 ≤ M i (w + m)
structure Ok (M : Vs) (m w : Nat) (T : Tab) : Prop where
  good : Good M m (w + m + 1) T
  feas : ∀ i, i < m → 0 ≤ T.R i (w + m)
  bas : ∀ i, i < m → T.b i < w + m
structure Stp (m w : Nat) (T T' : Tab) (p q : Nat) : Prop where
  piv : Piv m (w + m + 1) T T' p q
  hq : q < w
  neg : T.R m q < 0
  least : ∀ c, c < q → 0 ≤ T.R m c
  leave : ∀ k, k < m → 0 < T.R k q → T.R p (w + m) * T.R k q < T.R k (w + m) * T.R p q ∨ T.R p (w + m) * T.R k q = T.R k (w + m) * T.R p q ∧ T.b p ≤ T.b k
section
variable {M : Vs} {m w : Nat} {T T' : Tab} {p q : Nat}
theorem nonneg_of_mul {a b : Int} (ha : 0 < a) (h : 0 ≤ a * b) : 0 ≤ b := by
  by_cases hb : 0 ≤ b
  · exact hb
  · have : a * b < 0 := Int.mul_neg_of_pos_of_neg ha (by omega)
    omega
theorem Stp.ok (t : Stp m w T T' p q) (o : Ok M m w T) : Ok M m w T' := by
  have hp := o.good.pos
  refine ⟨t.piv.good o.good, fun i hi => ?_, fun i hi => ?_⟩
  · by_cases e : i = p
    · subst e
      rw [t.piv.own _ (by omega)]
      exact o.feas i hi
    · have h := t.piv.ex o.good (k := i) (c := w + m) (by omega) e (by omega)
      refine nonneg_of_mul hp ?_
      rw [h]
      have h1 := o.feas i hi
      have h2 := o.feas p t.piv.hp
      have h3 := t.piv.by'
      by_cases hn : 0 < T.R i q
      · have := t.leave i hi hn
        have e1 : T.R i q * T.R p (w + m) = T.R p (w + m) * T.R i q := Int.mul_comm _ _
        omega
      · have a1 : 0 ≤ T.R i (w + m) * T.R p q := Int.mul_nonneg h1 (by omega)
        have a2 : 0 ≤ (- T.R i q) * T.R p (w + m) := Int.mul_nonneg (by omega) h2
        rw [Int.neg_mul] at a2
        omega
  · rw [t.piv.b i hi]
    unfold upd
    split
    · have := t.hq; omega
    · exact o.bas i hi
/-- what is left grows no more -/
theorem Stp.obj (t : Stp m w T T' p q) (o : Ok M m w T) : T.R m (w + m) * T'.u ≤ T'.R m (w + m) * T.u := by
  have h := t.piv.ex o.good (k := m) (c := w + m) (by omega) (by have := t.piv.hp; omega) (by omega)
  rw [t.piv.u, Int.mul_comm (T'.R m (w + m)), h]
  have a2 : 0 ≤ (- T.R m q) * T.R p (w + m) := Int.mul_nonneg (by have := t.neg; omega) (o.feas p t.piv.hp)
  rw [Int.neg_mul] at a2
  omega
/-- a column that comes in isn't there yet -/
theorem Stp.new (t : Stp m w T T' p q) (o : Ok M m w T) {i : Nat} (hi : i < m) : T.b i ≠ q := by
  intro e
  have := o.good.basic (i := m) (by omega) hi
  rw [e, if_neg (by omega)] at this
  have := t.neg
  omega
end
/-- a chain of steps -/
structure Chn (M : Vs) (m w n : Nat) (f : Nat → Tab) (p q : Nat → Nat) : Prop where
  ok : Ok M m w (f 0)
  st : ∀ i, i < n → Stp m w (f i) (f (i + 1)) (p i) (q i)
section
variable {M : Vs} {m w n : Nat} {f : Nat → Tab} {p q : Nat → Nat}
theorem Chn.all (c : Chn M m w n f p q) : ∀ i, i ≤ n → Ok M m w (f i)
  | 0, _ => c.ok
  | i + 1, h => (c.st i (by omega)).ok (c.all i (by omega))
theorem mul_le_trans {a b c x y z : Int} (hy : 0 < y) (hx : 0 < x) (hz : 0 < z) (h1 : a * y ≤ b * x) (h2 : b * z ≤ c * y) : a * z ≤ c * x := by
  have e1 : a * y * z ≤ b * x * z := Int.mul_le_mul_of_nonneg_right h1 (by omega)
  have e2 : b * z * x ≤ c * y * x := Int.mul_le_mul_of_nonneg_right h2 (by omega)
  have e3 : y * (a * z) ≤ y * (c * x) := by
    have q1 : y * (a * z) = a * y * z := by simp only [Int.mul_comm, Int.mul_left_comm]
    have q2 : b * x * z = b * z * x := by simp only [Int.mul_comm, Int.mul_left_comm]
    have q3 : c * y * x = y * (c * x) := by simp only [Int.mul_comm, Int.mul_left_comm]
    omega
  exact Int.le_of_mul_le_mul_left e3 hy
theorem Chn.objs (c : Chn M m w n f p q) (i : Nat) : ∀ d, i + d ≤ n → (f i).R m (w + m) * (f (i + d)).u ≤ (f (i + d)).R m (w + m) * (f i).u
  | 0, _ => Int.le_refl _
  | d + 1, h => by
    have h1 := c.objs i d (by omega)
    have h2 := (c.st (i + d) (by omega)).obj (c.all (i + d) (by omega))
    exact mul_le_trans (c.all (i + d) (by omega)).good.pos (c.all i (by omega)).good.pos (c.all (i + d + 1) (by omega)).good.pos h1 h2
def In (m : Nat) (T : Tab) (c : Nat) : Prop := ∃ i, i < m ∧ T.b i = c
theorem Chn.leaves (c : Chn M m w n f p q) {x a : Nat} : ∀ d, a + d ≤ n → In m (f a) x → ¬ In m (f (a + d)) x → ∃ i, i < n ∧ (f i).b (p i) = x
  | 0, _, h1, h2 => absurd h1 h2
  | d + 1, h, h1, h2 => by
    by_cases e : In m (f (a + d)) x
    · obtain ⟨i, hi, hx⟩ := e
      have hb := (c.st (a + d) (by omega)).piv.b i hi
      unfold upd at hb
      split at hb
      · rename_i he
        exact ⟨a + d, by omega, by rw [← he]; exact hx⟩
      · exact absurd ⟨i, hi, hb.trans hx⟩ h2
    · exact c.leaves d (by omega) h1 e
end
end Sx

/-! The search's end, and what it tells. -/
namespace Sx
def code (K : Nat) (b : Nat → Nat) : Nat → Nat
  | 0 => 0
  | m + 1 => code K b m + b m * K ^ m
theorem nodup_le : ∀ (n : Nat) (l : List Nat), l.Nodup → (∀ a ∈ l, a < n) → l.length ≤ n
  | 0, l, _, h => by
    cases l with
    | nil => exact Nat.le_refl _
    | cons a l => exact absurd (h a List.mem_cons_self) (by omega)
  | n + 1, l, nd, h => by
    by_cases hm : n ∈ l
    · have h1 := nodup_le n (l.erase n) (nd.erase n) (fun a ha => by
        have h2 := h a (List.mem_of_mem_erase ha)
        have h3 : a ≠ n := fun e => by
          subst e
          exact (List.Nodup.mem_erase_iff nd).mp ha |>.1 rfl
        omega)
      rw [List.length_erase_of_mem hm] at h1
      omega
    · have h1 := nodup_le n l nd (fun a ha => by
        have h2 := h a ha
        have h3 : a ≠ n := fun e => hm (e ▸ ha)
        omega)
      omega
section
variable {M : Vs} {m w n : Nat} {f : Nat → Tab} {p q : Nat → Nat}
theorem Chn.cut (c : Chn M m w n f p q) {i j : Nat} (h : i + j ≤ n) : Chn M m w j (fun k => f (i + k)) (fun k => p (i + k)) (fun k => q (i + k)) :=
  ⟨c.all i (by omega), fun k hk => c.st (i + k) (by omega)⟩
end
section
variable {M : Vs} {m w : Nat} {T : Tab}
theorem sum_own (f : Nat → Int) : sm (w + m + 1) (fun c => f c * (if w ≤ c ∧ c < w + m then 1 else 0)) = sm m fun k => f (w + k) := by
  have e : sm (w + m + 1) (fun c => f c * (if w ≤ c ∧ c < w + m then (1 : Int) else 0)) = sm (w + m) (fun c => f c * (if w ≤ c ∧ c < w + m then (1 : Int) else 0)) + f (w + m) * (if w ≤ w + m ∧ w + m < w + m then (1 : Int) else 0) := rfl
  rw [e, if_neg (by omega), Int.mul_zero, Int.add_zero, sm_split, sm_zero' (n := w) (fun i hi => by rw [if_neg (by omega), Int.mul_zero]), Int.zero_add]
  exact sm_congr fun k hk => by rw [if_pos (by omega), Int.mul_one]
theorem Sys.tot (S : Sys M m w) {c : Nat} (hc : c < w + m + 1) : M m c + sm m (fun i => M i c) = if w ≤ c ∧ c < w + m then 1 else 0 := by
  by_cases h : w ≤ c ∧ c < w + m
  · rw [if_pos h]
    have e : c = w + (c - w) := by omega
    rw [e, S.ownL _ (by omega), sm_one (p := c - w) (by omega) (fun i hi hn => by rw [S.own i _ hi (by omega), if_neg hn]), S.own _ _ (by omega) (by omega), if_pos rfl]
    rfl
  · rw [if_neg h, S.last c (by omega)]
    omega
/-- the sum of the own ones of what adds up -/
theorem Sys.sums (S : Sys M m w) {x : Nat → Int} {y : Nat → Int} (h : ∀ j, j < m + 1 → sm (w + m + 1) (fun c => x c * M j c) = y j) : sm m (fun k => x (w + k)) = y m + sm m y := by
  rw [← sum_own x, sm_congr (fun c hc => by rw [← S.tot hc, Int.mul_add, ← sm_mul]), sm_add, sm_comm, h m (by omega)]
  congr 1
  exact sm_congr fun i hi => h i (by omega)
theorem Ok.leaves (S : Sys M m w) (o : Ok M m w T) {q : Nat} (hq : q < w) (hn : T.R m q < 0) : ∃ k, k < m ∧ 0 < T.R k q := by
  by_cases hex : ∃ k, k < m ∧ 0 < T.R k q
  · exact hex
  · exfalso
    have hall : ∀ k, k < m → T.R k q ≤ 0 := fun k hk => by
      by_cases h : 0 < T.R k q
      · exact absurd ⟨k, hk, h⟩ hex
      · omega
    have h := S.sums (x := dir T m q) (y := fun j => if j = m then T.R m q else 0) (fun j hj => by
      have := o.good.dirs (s := q) (by omega) hj
      by_cases e : j = m
      · rw [if_pos e] at this ⊢; omega
      · rw [if_neg e] at this ⊢; omega)
    simp only [if_true] at h
    rw [sm_zero' (f := fun j => if j = m then T.R m q else 0) (fun i hi => if_neg (by omega))] at h
    have : 0 ≤ sm m (fun k => dir T m q (w + k)) := sm_nonneg fun k hk => by
      unfold dir
      have h1 : sm m (fun i => if T.b i = w + k then T.R i q else 0) ≤ 0 := by
        have := sm_le (n := m) (f := fun i => if T.b i = w + k then T.R i q else 0) (g := fun _ => 0) (fun i hi => by
          split
          · exact hall i hi
          · exact Int.le_refl _)
        rwa [sm_zero' fun _ _ => rfl] at this
      have := o.good.pos
      split <;> omega
    omega
/-- the numbers that stand in the basis -/
def val (T : Tab) (m r : Nat) : Nat → Int := fun c => sm m fun k => if T.b k = c then T.R k r else 0
theorem val_nonneg (o : Ok M m w T) (c : Nat) : 0 ≤ val T m (w + m) c := sm_nonneg fun k hk => by
  split
  · exact o.feas k hk
  · exact Int.le_refl _
theorem val_sum {n : Nat} (f : Nat → Int) (r : Nat) (hb : ∀ k, k < m → T.b k < n) : sm n (fun c => val T m r c * f c) = sm m fun k => T.R k r * f (T.b k) := by
  unfold val
  rw [sm_congr (fun c _ => (sm_mulr (f c) _ m).symm), sm_comm (fun c k => (if T.b k = c then T.R k r else 0) * f c)]
  refine sm_congr fun k hk => ?_
  rw [sm_congr (fun c _ => by rw [show (if T.b k = c then T.R k r else 0) = (if c = T.b k then T.R k r else 0) by
    by_cases e : T.b k = c
    · rw [if_pos e, if_pos e.symm]
    · rw [if_neg e, if_neg (Ne.symm e)]]), sm_at (hb k hk)]
theorem Ok.vals (o : Ok M m w T) {j : Nat} (hj : j < m + 1) : sm (w + m + 1) (fun c => val T m (w + m) c * M j c) = T.u * M j (w + m) - (if j = m then T.R m (w + m) else 0) := by
  rw [val_sum _ _ o.good.bas, o.good.comb (w + m) j (by omega) hj]
  simp only [sm]
  rw [bv_m, sm_congr (f := fun i => T.R i (w + m) * bv M m T.b i j) (g := fun i => T.R i (w + m) * M j (T.b i)) (fun i hi => by rw [bv_lt hi])]
  by_cases e : j = m
  · simp only [if_pos e]; omega
  · simp only [if_neg e]; omega
theorem Ok.rest (S : Sys M m w) (o : Ok M m w T) : sm m (fun k => val T m (w + m) (w + k)) = - T.R m (w + m) := by
  have h := S.sums (x := val T m (w + m)) (y := fun j => T.u * M j (w + m) - (if j = m then T.R m (w + m) else 0)) (fun j hj => o.vals hj)
  rw [h]
  simp only [if_true]
  rw [sm_sub, sm_mul, sm_zero' (f := fun j => if j = m then T.R m (w + m) else 0) (fun i hi => if_neg (by omega)), S.last (w + m) (.inr rfl), Int.mul_neg]
  omega
/-- where nothing is left: numbers from 0 on that add up -/
theorem Ok.found (S : Sys M m w) (o : Ok M m w T) (h0 : T.R m (w + m) = 0) {i : Nat} (hi : i < m) : sm w (fun c => val T m (w + m) c * M i c) = T.u * M i (w + m) := by
  have h := o.vals (j := i) (by omega)
  rw [if_neg (by omega), Int.sub_zero] at h
  rw [← h]
  have hr := o.rest S
  rw [h0] at hr
  have hz := sm_all0 (fun k _ => val_nonneg o (w + k)) hr
  have hv : val T m (w + m) (w + m) = 0 := sm_zero' fun k hk => if_neg (by have := o.bas k hk; omega)
  have e : sm (w + m + 1) (fun c => val T m (w + m) c * M i c) = sm (w + m) (fun c => val T m (w + m) c * M i c) + val T m (w + m) (w + m) * M i (w + m) := rfl
  rw [e, hv, Int.zero_mul, Int.add_zero, sm_split, sm_zero' (n := m) (fun k hk => by rw [hz k hk, Int.zero_mul]), Int.add_zero]
end
end Sx

/-! Sx: a determinant is at most the product of its vectors' sums of amounts; what weights come to at most. -/
namespace Sx
section
variable {M : Vs} {m w : Nat} {T : Tab}
end
end Sx

/-! Mir: the search's steps: which column comes in, which row gives way, all rows anew. -/
namespace Mir
namespace Y
open PySem PySem.Spec PyProof.Rows L2 Mir
def ro (rows : List (List Int)) (i : Nat) : List Int := rows.getD i []
def en (r : List Int) (c : Nat) : Int := r.getD c 0
def bt (bs : List Nat) (i : Nat) : Nat := bs.getD i 0
def eI (rows : List (List Int)) (i c : Nat) : Int := en (ro rows i) c
theorem en_get {r : List Int} {c : Nat} (h : c < r.length) : r[c]? = some (en r c) := by
  unfold en
  rw [List.getD_eq_getElem?_getD, List.getElem?_eq_getElem h]; rfl
structure Shp (rows : List (List Int)) (n C : Nat) : Prop where
  len : rows.length = n
  wid : ∀ r ∈ rows, r.length = C
/-- a number that isn't too great -/
def Sm (x : Int) : Prop := x.natAbs < 2 ^ 4000
def AllSm (rows : List (List Int)) : Prop := ∀ r ∈ rows, ∀ x ∈ r, Sm x
theorem Shp.get {rows : List (List Int)} {n C i : Nat} (h : Shp rows n C) (hi : i < n) : rows[i]? = some (ro rows i) := by
  unfold ro
  rw [List.getD_eq_getElem?_getD, List.getElem?_eq_getElem (by rw [h.len]; exact hi)]; rfl
theorem Shp.row {rows : List (List Int)} {n C i : Nat} (h : Shp rows n C) (hi : i < n) : (ro rows i).length = C := h.wid _ (List.mem_of_getElem? (h.get hi))
/-- the row that gives way -/
structure Lv (rows : List (List Int)) (bs : List Nat) (c r n p : Nat) : Prop where
  lt : p < n
  pos : 0 < eI rows p c
  least : ∀ k, k < n → 0 < eI rows k c → eI rows p r * eI rows k c < eI rows k r * eI rows p c ∨ eI rows p r * eI rows k c = eI rows k r * eI rows p c ∧ bt bs p ≤ bt bs k
theorem cross {a b c x y z : Int} (hx : 0 < x) (hy : 0 < y) (hz : 0 < z) (h1 : a * y ≤ b * x) (h2 : b * z ≤ c * y) : a * z ≤ c * x := Sx.mul_le_trans hy hx hz h1 h2
theorem cross_lt {a b c x y z : Int} (hx : 0 < x) (hy : 0 < y) (hz : 0 < z) (h1 : a * y < b * x) (h2 : b * z ≤ c * y) : a * z < c * x := by
  have e1 : a * y * z < b * x * z := Int.mul_lt_mul_of_pos_right h1 hz
  have e2 : b * z * x ≤ c * y * x := Int.mul_le_mul_of_nonneg_right h2 (by omega)
  have e3 : y * (a * z) < y * (c * x) := by
    have q1 : y * (a * z) = a * y * z := by simp only [Int.mul_comm, Int.mul_left_comm]
    have q2 : b * x * z = b * z * x := by simp only [Int.mul_comm, Int.mul_left_comm]
    have q3 : c * y * x = y * (c * x) := by simp only [Int.mul_comm, Int.mul_left_comm]
    omega
  exact Int.lt_of_mul_lt_mul_left e3 (by omega)
theorem Lv.next {rows : List (List Int)} {bs : List Nat} {c r n p : Nat} (h : Lv rows bs c r n p) (hn : 0 < eI rows n c) (hb : eI rows n r * eI rows p c < eI rows p r * eI rows n c ∨ eI rows n r * eI rows p c = eI rows p r * eI rows n c ∧ bt bs n < bt bs p) : Lv rows bs c r (n + 1) n := by
  refine ⟨Nat.lt_succ_self n, hn, fun k hk hkc => ?_⟩
  by_cases e : k = n
  · subst e; exact .inr ⟨rfl, Nat.le_refl _⟩
  · have h1 := h.least k (by omega) hkc
    have hp := h.pos
    rcases hb with hb | ⟨hb, hl⟩
    · refine .inl (cross_lt (b := eI rows p r) hn hp hkc hb ?_)
      rcases h1 with h1 | h1
      · omega
      · omega
    · rcases h1 with h1 | ⟨h1, h2⟩
      · left
        have e1 : eI rows n r * eI rows k c ≤ eI rows k r * eI rows n c := cross (b := eI rows p r) hn hp hkc (by omega) (by omega)
        rcases Int.lt_or_eq_of_le e1 with e1 | e1
        · exact e1
        · exfalso
          -- then p and k are alike
          have e2 : eI rows k r * eI rows p c ≤ eI rows p r * eI rows k c := cross (b := eI rows n r) hkc hn hp (by omega) (by omega)
          omega
      · right
        have e1 : eI rows n r * eI rows k c ≤ eI rows k r * eI rows n c := cross (b := eI rows p r) hn hp hkc (by omega) (by omega)
        have e2 : eI rows k r * eI rows n c ≤ eI rows n r * eI rows k c := cross (b := eI rows p r) hkc hp hn (by omega) (by omega)
        exact ⟨by omega, by omega⟩
theorem Lv.keep {rows : List (List Int)} {bs : List Nat} {c r n p : Nat} (h : Lv rows bs c r n p) (hb : 0 < eI rows n c → ¬ (eI rows n r * eI rows p c < eI rows p r * eI rows n c ∨ eI rows n r * eI rows p c = eI rows p r * eI rows n c ∧ bt bs n < bt bs p)) : Lv rows bs c r (n + 1) p := by
  refine ⟨Nat.lt_succ_of_lt h.lt, h.pos, fun k hk hkc => ?_⟩
  by_cases e : k = n
  · subst e
    have := hb hkc
    by_cases q : eI rows p r * eI rows k c < eI rows k r * eI rows p c
    · exact .inl q
    · right
      exact ⟨by omega, by omega⟩
  · exact h.least k (by omega) hkc
end Y
end Mir

/-! Mir: all rows anew; the rows to begin with. -/
namespace Mir
namespace Y
open PySem PySem.Spec PyProof.Rows L2 Mir
/-- one row anew -/
def pivR (own : List Int) (by' take u : Int) (row : List Int) : List Int := (row.zip own).map fun p => (p.1 * by' - take * p.2).fdiv u
def pivL (rows : List (List Int)) (p c : Nat) (u : Int) : List (List Int) := rows.zipIdx.map fun x => if x.2 = p then x.1 else pivR (ro rows p) (eI rows p c) (en x.1 c) u x.1
end Y
end Mir

/-! Mir: the rows to begin with. -/
namespace Mir
namespace Y
open PySem PySem.Spec PyProof.Rows L2 Mir
/-- columns: where each lies, and its numbers -/
abbrev Cols := List (Nat × List Int)
structure ColsIn (m : Mem) (cs : Cols) (n : Nat) : Prop where
  at' : ∀ p ∈ cs, m[p.1]? = some (.lst (p.2.map .int))
  len : ∀ p ∈ cs, p.2.length = n
theorem ColsIn.kp {m m' : Mem} {cs : Cols} {n : Nat} (h : ColsIn m cs n) (k : Kp m m') : ColsIn m' cs n := ⟨fun p hp => k.get (h.at' p hp), h.len⟩
def sgI (x : Int) : Int := if 0 ≤ x then 1 else -1
theorem sgI_abs (x : Int) : (sgI x).natAbs = 1 := by unfold sgI; split <;> rfl
def begR (cs : Cols) (due : List Int) (i : Nat) : List Int := cs.map (fun p => sgI (en due i) * en p.2 i) ++ ((List.range due.length).map fun k => if i = k then (1 : Int) else 0) ++ [sgI (en due i) * en due i]
def begS (cs : Cols) (due : List Int) (c : Nat) : Int := 0 - ((List.range due.length).map fun i => en (begR cs due i) c).sum
def begN (cs : Cols) (due : List Int) : List Int := (List.range cs.length).map (begS cs due) ++ List.replicate due.length 0 ++ [begS cs due (cs.length + due.length)]
def begL (cs : Cols) (due : List Int) : List (List Int) := (List.range due.length).map (begR cs due) ++ [begN cs due]
end Y
end Mir

/-! Mir: the rows to begin with are a system; chains; bounds. -/
namespace Mir
namespace Y
open PySem PySem.Spec PyProof.Rows L2 Mir
theorem en_app_l {xs ys : List Int} {c : Nat} (h : c < xs.length) : en (xs ++ ys) c = en xs c := by
  unfold en
  rw [List.getD_eq_getElem?_getD, List.getD_eq_getElem?_getD, List.getElem?_append_left h]
theorem en_app_r {xs ys : List Int} {c : Nat} (h : xs.length ≤ c) : en (xs ++ ys) c = en ys (c - xs.length) := by
  unfold en
  rw [List.getD_eq_getElem?_getD, List.getD_eq_getElem?_getD, List.getElem?_append_right h]
theorem en_map {α : Type} {f : α → Int} {xs : List α} {c : Nat} {x : α} (h : xs[c]? = some x) : en (xs.map f) c = f x := by
  unfold en
  rw [List.getD_eq_getElem?_getD, List.getElem?_map, h]; rfl
theorem en_range {f : Nat → Int} {n c : Nat} (h : c < n) : en ((List.range n).map f) c = f c := en_map (List.getElem?_range h)
theorem sum_sm (f : Nat → Int) : ∀ n : Nat, ((List.range n).map f).sum = Sx.sm n f
  | 0 => rfl
  | n + 1 => by
    rw [List.range_succ, List.map_append, List.sum_append, sum_sm f n]
    simp [Sx.sm]
/-- a column's numbers -/
def cAt (cs : Cols) (j : Nat) : List Int := (cs.getD j (0, [])).2
theorem begN_col {cs : Cols} {due : List Int} {j : Nat} (h : j < cs.length) : en (begN cs due) j = begS cs due j := by
  unfold begN
  rw [List.append_assoc, en_app_l (by simpa using h), en_range h]
theorem begN_own {cs : Cols} {due : List Int} {k : Nat} (h : k < due.length) : en (begN cs due) (cs.length + k) = 0 := by
  unfold begN
  rw [List.append_assoc, en_app_r (by simp), List.length_map, List.length_range, Nat.add_sub_cancel_left, en_app_l (by simpa using h)]
  unfold en
  rw [List.getD_eq_getElem?_getD, List.getElem?_replicate, if_pos h]; rfl
theorem begN_due {cs : Cols} {due : List Int} : en (begN cs due) (cs.length + due.length) = begS cs due (cs.length + due.length) := by
  unfold begN
  rw [en_app_r (by simp), List.length_append, List.length_map, List.length_range, List.length_replicate, Nat.sub_self]
  rfl
def begM (cs : Cols) (due : List Int) : Sx.Vs := fun i c => eI (begL cs due) i c
theorem begM_lt {cs : Cols} {due : List Int} {i : Nat} (h : i < due.length) (c : Nat) : begM cs due i c = en (begR cs due i) c := by
  unfold begM eI ro begL
  rw [List.getD_eq_getElem?_getD, List.getElem?_append_left (by simpa using h), List.getElem?_map, List.getElem?_range h]; rfl
theorem begM_n {cs : Cols} {due : List Int} (c : Nat) : begM cs due due.length c = en (begN cs due) c := by
  unfold begM eI ro begL
  rw [List.getD_eq_getElem?_getD, List.getElem?_append_right (by simp), List.length_map, List.length_range, Nat.sub_self]; rfl
theorem begS_sm {cs : Cols} {due : List Int} (c : Nat) : begS cs due c = - Sx.sm due.length fun i => begM cs due i c := by
  unfold begS
  rw [sum_sm, Sx.sm_congr (g := fun i => begM cs due i c) (fun i hi => (begM_lt hi c).symm)]
  omega
/-! ### bounds -/
structure Lit (cs : Cols) (due : List Int) : Prop where
  col : ∀ p ∈ cs, ∀ x ∈ p.2, x.natAbs ≤ 2 ^ 20
  du : ∀ x ∈ due, x.natAbs ≤ 2 ^ 20
  few : due.length ≤ 30
theorem en_lit {xs : List Int} {b : Nat} (h : ∀ x ∈ xs, x.natAbs ≤ b) (c : Nat) : (en xs c).natAbs ≤ b := by
  unfold en
  rw [List.getD_eq_getElem?_getD]
  cases hx : xs[c]? with
  | none => exact Nat.zero_le _
  | some x => exact h x (List.mem_of_getElem? hx)
theorem begR_lit {cs : Cols} {due : List Int} (h : Lit cs due) (i c : Nat) : (en (begR cs due i) c).natAbs ≤ 2 ^ 20 := by
  refine en_lit (fun x hx => ?_) c
  unfold begR at hx
  rcases List.mem_append.mp hx with hx | hx
  · rcases List.mem_append.mp hx with hx | hx
    · obtain ⟨p, hp, rfl⟩ := List.mem_map.mp hx
      rw [Int.natAbs_mul, sgI_abs, Nat.one_mul]
      exact en_lit (h.col p hp) i
    · obtain ⟨k, _, rfl⟩ := List.mem_map.mp hx
      split
      · decide
      · exact Nat.zero_le _
  · rw [List.mem_singleton.mp hx, Int.natAbs_mul, sgI_abs, Nat.one_mul]
    exact en_lit h.du i
theorem begM_lit {cs : Cols} {due : List Int} (h : Lit cs due) {i c : Nat} (hi : i < due.length + 1) (hc : c < cs.length + due.length + 1) : (begM cs due i c).natAbs ≤ 2 ^ 25 := by
  by_cases e : i < due.length
  · rw [begM_lt e]
    exact Nat.le_trans (begR_lit h i c) (by decide)
  · have : i = due.length := by omega
    subst this
    have hs : (Sx.sm due.length fun i => begM cs due i c).natAbs ≤ 2 ^ 25 := by
      have h1 := Sx.sm_abs (fun i => begM cs due i c) due.length
      have h2 := Sx.sm_le (n := due.length) (f := fun i => ((begM cs due i c).natAbs : Int)) (g := fun _ => ((2 ^ 20 : Nat) : Int)) (fun i hi => by
        rw [begM_lt hi]
        exact Int.ofNat_le.mpr (begR_lit h i c))
      rw [Sx.sm_const] at h2
      have h3 : ((due.length : Nat) : Int) * ((2 ^ 20 : Nat) : Int) ≤ ((2 ^ 25 : Nat) : Int) := by
        have : due.length * 2 ^ 20 ≤ 2 ^ 25 := Nat.le_trans (Nat.mul_le_mul_right _ h.few) (by decide)
        rw [← Int.natCast_mul]
        exact Int.ofNat_le.mpr this
      omega
    rcases Nat.lt_or_ge c cs.length with hcl | hcl
    · rw [begM_n, begN_col hcl, begS_sm, Int.natAbs_neg]
      exact hs
    · by_cases hcd : c = cs.length + due.length
      · subst hcd
        rw [begM_n, begN_due, begS_sm, Int.natAbs_neg]
        exact hs
      · obtain ⟨k, rfl⟩ : ∃ k, c = cs.length + k := ⟨c - cs.length, by omega⟩
        rw [begM_n, begN_own (by omega)]
        exact Nat.zero_le _
theorem fac_le : ∀ {n : Nat}, n ≤ 32 → Sx.fac n ≤ 2 ^ (5 * n)
  | 0, _ => by decide
  | n + 1, h => by
    have ih := fac_le (n := n) (by omega)
    show (n + 1) * Sx.fac n ≤ _
    rw [show 5 * (n + 1) = 5 + 5 * n by omega, Nat.pow_add]
    exact Nat.mul_le_mul (by omega) ih
def SmB (x : Int) : Prop := x.natAbs ≤ 2 ^ 1045
theorem good_smB {cs : Cols} {due : List Int} (h : Lit cs due) {T : Sx.Tab} (g : Sx.Good (begM cs due) due.length (cs.length + due.length + 1) T) {i c : Nat} (hi : i < due.length + 1) (hc : c < cs.length + due.length + 1) : SmB (T.R i c) := by
  have h1 := g.bound (B := 2 ^ 25) (fun j c hj hc => begM_lit h hj hc) (by decide) hi hc
  have h2 := fac_le (n := due.length + 1) (by have := h.few; omega)
  refine Nat.le_trans h1 (Nat.le_trans (Nat.mul_le_mul_right _ h2) ?_)
  rw [← Nat.pow_mul, ← Nat.pow_add]
  exact Nat.pow_le_pow_right (by decide) (by have := h.few; omega)
theorem SmB.sm {x : Int} (h : SmB x) : Sm x := Nat.lt_of_le_of_lt h (Nat.pow_lt_pow_right (by decide) (by decide))
/-! ### chains -/
def tabL (rows : List (List Int)) (u : Int) (bs : List Nat) : Sx.Tab := ⟨eI rows, u, bt bs⟩
def Rchd (M : Sx.Vs) (n w t : Nat) (T : Sx.Tab) : Prop := ∃ f p q, Sx.Chn M n w t f p q ∧ f t = T
theorem Rchd.zero {M : Sx.Vs} {n w : Nat} {T : Sx.Tab} (o : Sx.Ok M n w T) : Rchd M n w 0 T := ⟨fun _ => T, fun _ => 0, fun _ => 0, ⟨o, fun i h => absurd h (by omega)⟩, rfl⟩
theorem Rchd.snoc {M : Sx.Vs} {n w t : Nat} {T T' : Sx.Tab} {a c : Nat} (h : Rchd M n w t T) (s : Sx.Stp n w T T' a c) : Rchd M n w (t + 1) T' := by
  obtain ⟨f, p, q, ch, rfl⟩ := h
  refine ⟨fun i => if i ≤ t then f i else T', fun i => if i < t then p i else a, fun i => if i < t then q i else c, ⟨?_, fun i hi => ?_⟩, ?_⟩
  · show Sx.Ok M n w (if 0 ≤ t then f 0 else T')
    rw [if_pos (Nat.zero_le _)]
    exact ch.ok
  · by_cases e : i < t
    · simp only [e, if_true, show i ≤ t by omega, show i + 1 ≤ t by omega]
      exact ch.st i e
    · have : i = t := by omega
      subst this
      simp only [Nat.le_refl, if_true, Nat.lt_irrefl, if_false, show ¬ i + 1 ≤ i by omega]
      exact s
  · show (if t + 1 ≤ t then f (t + 1) else T') = T'
    rw [if_neg (by omega)]
theorem Rchd.ok {M : Sx.Vs} {n w t : Nat} {T : Sx.Tab} (h : Rchd M n w t T) : Sx.Ok M n w T := by
  obtain ⟨f, p, q, ch, rfl⟩ := h
  exact ch.all t (Nat.le_refl _)
/-! ### a row anew, entry by entry -/
theorem pivL_shp {rows : List (List Int)} {n C p c : Nat} {u : Int} (sh : Shp rows n C) (hp : p < n) : Shp (pivL rows p c u) n C := by
  refine ⟨by simp [pivL, sh.len], fun r hr => ?_⟩
  obtain ⟨x, hx, rfl⟩ := List.mem_map.mp hr
  have hx' := List.mem_zipIdx_iff_getElem?.mp hx
  have := sh.wid _ (List.mem_of_getElem? hx')
  split
  · exact this
  · unfold pivR
    rw [List.length_map, List.length_zip, this, sh.row hp, Nat.min_self]
theorem pivL_at {rows : List (List Int)} {n C p c : Nat} {u : Int} (sh : Shp rows n C) (hp : p < n) {k j : Nat} (hk : k < n) (hj : j < C) : eI (pivL rows p c u) k j = if k = p then eI rows k j else (eI rows k j * eI rows p c - eI rows k c * eI rows p j).fdiv u := by
  have h1 : ro (pivL rows p c u) k = if k = p then ro rows k else pivR (ro rows p) (eI rows p c) (eI rows k c) u (ro rows k) := by
    have h2 := (pivL_shp (c := c) (u := u) sh hp).get hk
    unfold pivL at h2 ⊢
    rw [List.getElem?_map, List.getElem?_zipIdx, sh.get hk] at h2
    have := Option.some.inj h2
    simp at this
    exact this.symm
  unfold eI at *
  rw [h1]
  by_cases e : k = p
  · rw [if_pos e, if_pos e]
  · rw [if_neg e, if_neg e]
    unfold pivR
    have hz : ((ro rows k).zip (ro rows p))[j]? = some (en (ro rows k) j, en (ro rows p) j) := by
      rw [List.getElem?_zip_eq_some]
      exact ⟨en_get (by rw [sh.row hk]; exact hj), en_get (by rw [sh.row hp]; exact hj)⟩
    exact en_map hz
end Y
end Mir

/-! Mir: the search. -/
namespace Mir
namespace Y
open PySem PySem.Spec PyProof.Rows L2 Mir
/-- numbers from 0 on, over one number, by which the columns come to what is due -/
structure Fnds (cs : Cols) (due : List Int) (v : Nat → Int) (u : Int) : Prop where
  pos : 0 < u
  small : u.natAbs ≤ 2 ^ 1045
  nn : ∀ j, 0 ≤ v j
  vs : ∀ j, (v j).natAbs ≤ 2 ^ 1045
  sum : ∀ i, i < due.length → Sx.sm cs.length (fun j => v j * en (cAt cs j) i) = u * en due i
  fine : ∀ B : Int, 1 ≤ B → (∀ j, j < cs.length → Sx.sm due.length (fun i => ((en (cAt cs j) i).natAbs : Int)) ≤ B) → Sx.sm due.length (fun i => ((en due i).natAbs : Int)) ≤ B → (u.natAbs : Int) ≤ B ^ due.length ∧ ∀ j, ((v j).natAbs : Int) ≤ B ^ due.length
/-- weights that show that there are none -/
structure Nots (cs : Cols) (due : List Int) (y : List Int) : Prop where
  len : y.length = due.length
  small : ∀ x ∈ y, x.natAbs ≤ 2 ^ 1050
  fine : ∀ B : Int, 2 ≤ B → (∀ j, j < cs.length → Sx.sm due.length (fun i => ((en (cAt cs j) i).natAbs : Int)) ≤ B) → ∀ x ∈ y, (x.natAbs : Int) ≤ B ^ due.length
  col : ∀ j, j < cs.length → Sx.sm due.length (fun i => en y i * en (cAt cs j) i) ≤ 0
  due : 0 < Sx.sm due.length (fun i => en y i * en due i)
section
variable {m : Mem} {cs : Cols} {due : List Int} {P : D → Mem → Prop}
theorem allSm_of {rows : List (List Int)} {n C : Nat} (sh : Shp rows n C) (h : ∀ i c, i < n → c < C → Sm (eI rows i c)) : AllSm rows := fun r hr x hx => by
  obtain ⟨i, hi⟩ := List.mem_iff_getElem?.mp hr
  obtain ⟨c, hc⟩ := List.mem_iff_getElem?.mp hx
  have hin : i < n := by rw [← sh.len]; exact (List.getElem?_eq_some_iff.mp hi).1
  have hcl := (List.getElem?_eq_some_iff.mp hc).1
  have h1 := sh.get hin
  rw [hi] at h1
  have h1 := Option.some.inj h1
  have h2 := en_get hcl
  rw [hc] at h2
  have h2 := Option.some.inj h2
  rw [h2, h1]
  refine h i c hin ?_
  rw [← sh.wid r hr]
  exact hcl
/-- where the search stands -/
structure At (cs : Cols) (due : List Int) (rows : List (List Int)) (u : Int) (bs : List Nat) (t : Nat) : Prop where
  sh : Shp rows (due.length + 1) (cs.length + due.length + 1)
  bl : bs.length = due.length
  ch : Rchd (begM cs due) due.length cs.length t (tabL rows u bs)
theorem At.smB {rows : List (List Int)} {u : Int} {bs : List Nat} {t : Nat} (h : Lit cs due) (a : At cs due rows u bs t) {i c : Nat} (hi : i < due.length + 1) (hc : c < cs.length + due.length + 1) : SmB (eI rows i c) := good_smB h a.ch.ok.good hi hc
theorem At.sm {rows : List (List Int)} {u : Int} {bs : List Nat} {t : Nat} (h : Lit cs due) (a : At cs due rows u bs t) : AllSm rows := allSm_of a.sh fun i c hi hc => (a.smB h hi hc).sm
theorem At.u {rows : List (List Int)} {u : Int} {bs : List Nat} {t : Nat} (h : Lit cs due) (a : At cs due rows u bs t) : u.natAbs ≤ 2 ^ 1045 := by
  have hu : ((tabL rows u bs).u).natAbs ≤ 2 ^ 1045 := by
    obtain ⟨s, hs, hu⟩ := a.ch.ok.good.unit
    rw [hu, Int.natAbs_mul]
    have hs1 : s.natAbs = 1 := by
      have : s.natAbs * s.natAbs = 1 := by rw [← Int.natAbs_mul, hs]; rfl
      exact Nat.eq_one_of_mul_eq_one_left this
    rw [hs1, Nat.one_mul]
    have h2 := fac_le (n := due.length + 1) (by have := h.few; omega)
    refine Nat.le_trans (Sx.det_le (b := 2 ^ 25) fun i j hi hj => ?_) (Nat.le_trans (Nat.mul_le_mul_right _ h2) ?_)
    · unfold Sx.bv
      split
      · rename_i hl
        exact begM_lit h hj (a.ch.ok.good.bas i hl)
      · show (if j = due.length then (1 : Int) else 0).natAbs ≤ _
        split
        · decide
        · exact Nat.zero_le _
    · rw [← Nat.pow_mul, ← Nat.pow_add]
      exact Nat.pow_le_pow_right (by decide) (by have := h.few; omega)
  exact hu
/-- one step more -/
theorem At.step {rows : List (List Int)} {u : Int} {bs : List Nat} {t p c : Nat} (a : At cs due rows u bs t) (lv : Lv rows bs c (cs.length + due.length) due.length p) (hc : c < cs.length) (hneg : eI rows due.length c < 0) (hleast : ∀ c', c' < c → 0 ≤ eI rows due.length c') :
    At cs due (pivL rows p c u) (eI rows p c) (bs.set p c) (t + 1) := by
  have hp := lv.lt
  have hupos : 0 < u := a.ch.ok.good.pos
  refine ⟨pivL_shp a.sh (by omega), by rw [List.length_set]; exact a.bl, a.ch.snoc (a := p) (c := c) ⟨⟨hp, by omega, lv.pos, rfl, fun i hi => ?_, fun j hj => ?_, fun k j hk hkp hj => ?_⟩, hc, hneg, hleast, fun k hk hkc => lv.least k hk hkc⟩⟩
  · show (bs.set p c).getD i 0 = if i = p then c else bs.getD i 0
    rw [List.getD_eq_getElem?_getD, List.getD_eq_getElem?_getD, List.getElem?_set]
    by_cases e : p = i
    · subst e
      rw [if_pos rfl, if_pos (by rw [a.bl]; exact hp), if_pos rfl]; rfl
    · rw [if_neg e, if_neg (Ne.symm e)]
  · show eI (pivL rows p c u) p j = eI rows p j
    rw [pivL_at a.sh (by omega) (by omega) hj, if_pos rfl]
  · show eI (pivL rows p c u) k j = _
    rw [pivL_at a.sh (by omega) hk hj, if_neg hkp]
    exact Int.fdiv_eq_ediv_of_nonneg _ (by omega)
end
end Y
end Mir

/-! Mir: the search, walked. -/
namespace Mir
namespace Y
open PySem PySem.Spec PyProof.Rows L2 Mir
section
variable {m : Mem} {cs : Cols} {due : List Int} {P : D → Mem → Prop}
end
end Y
end Mir

/-! Mir: columns of ways and weights; the greatest number that divides all. -/
namespace Mir
namespace Y
open PySem PySem.Spec PyProof.Rows L2 Mir
end Y
end Mir

/-! Mir: the greatest number that divides all; mixtures. -/
namespace Mir
namespace Y
open PySem PySem.Spec PyProof.Rows L2 Mir
end Y
end Mir

/-! Mir: mixtures, plain. -/
namespace Mir
namespace Y
open PySem PySem.Spec PyProof.Rows L2 Mir
open Sx (sm)
def wy (r : Rows') (p : Nat) : Nat × Nat × Nat := (wayL r).getD p (0, 0, 0)
theorem wy_get {r : Rows'} {p : Nat} (h : p < (wayL r).length) : (wayL r)[p]? = some (wy r p) := by
  unfold wy
  rw [List.getD_eq_getElem?_getD, List.getElem?_eq_getElem h]; rfl
theorem wy_way {r : Rows'} {p : Nat} (h : p < (wayL r).length) : way r (wy r p).1 (wy r p).2.1 (wy r p).2.2 := wayL_mem.mp (List.mem_of_getElem? (wy_get h))
def nth (xs : List Nat) (i : Nat) : Nat := xs.getD i 0
/-- a way's goes; what comes less what leaves; what deeds come to -/
def net (r : Rows') (g : Nat → Int) (a : Nat) : Int := sm (wayL r).length fun p => g p * ((if a = (wy r p).2.2 then 1 else 0) - (if a = (wy r p).1 then 1 else 0))
def dsm (r : Rows') (g : Nat → Int) (k : Nat) : Int := sm (wayL r).length fun p => g p * (if k = (wy r p).2.1 then 1 else 0)
structure Mix (c : Cha) (rooms deeds : List Int) (so lo : List Nat) (free : Bool) (g wt : Nat → Int) (u : Int) : Prop where
  pos : 0 < u
  us : u.natAbs ≤ 2 ^ 1051
  gs : ∀ p, (g p).natAbs ≤ 2 ^ 1051
  ws : ∀ a, (wt a).natAbs ≤ 2 ^ 1051
  room : ∀ a, a < c.r.length → net c.r g a - wt a = u * en rooms a
  deed : ∀ k, k < c.n.length → k ∉ lo → dsm c.r g k = u * en deeds k
  deedL : ∀ k, k < c.n.length → dsm c.r g k ≤ u * en deeds k
  nnw : ∀ a, 0 ≤ wt a
  out : ∀ a, a ∉ so → wt a = 0
  one : sm c.r.length wt = u * (if 0 < so.length then 1 else 0)
  nng : free = false → ∀ p, 0 ≤ g p
  fine : sm c.r.length (fun a => ((en rooms a).natAbs : Int)) + sm c.n.length (fun k => ((en deeds k).natAbs : Int)) + (if 0 < so.length then 1 else 0) ≤ 3 → (u.natAbs : Int) ≤ 3 ^ (c.r.length + c.n.length + 1) ∧ (∀ p, ((g p).natAbs : Int) ≤ 3 ^ (c.r.length + c.n.length + 1)) ∧ ∀ a, ((wt a).natAbs : Int) ≤ 3 ^ (c.r.length + c.n.length + 1)
structure Eff (c : Cha) (rooms deeds : List Int) (so lo : List Nat) (free : Bool) (es : List Int) (Y Z : Nat → Int) (z b : Int) : Prop where
  pos : 1 ≤ b
  len : es.length = c.n.length
  eff : ∀ k, k < c.n.length → b * en es k = - Z k
  way : ∀ a k d, way c.r a k d → Y d - Y a + Z k ≤ 0
  wayF : free = true → ∀ a k d, Mir.way c.r a k d → Y d - Y a + Z k = 0
  some' : ∀ a ∈ so, z ≤ Y a
  loose : ∀ k ∈ lo, Z k ≤ 0
  due : 0 < sm c.r.length (fun a => Y a * en rooms a) + sm c.n.length (fun k => Z k * en deeds k) + z * (if 0 < so.length then 1 else 0)
  ys : ∀ a, (Y a).natAbs ≤ 2 ^ 1050
  fy : ∀ a, ((Y a).natAbs : Int) ≤ 3 ^ (c.r.length + c.n.length + 1)
  fz : ∀ k, ((Z k).natAbs : Int) ≤ 3 ^ (c.r.length + c.n.length + 1)
section
variable {c : Cha} {rooms deeds : List Int} {so lo : List Nat} {free : Bool}
end
end Y
end Mir

/-! Mir: mixtures, walked. -/
namespace Mir
namespace Y
open PySem PySem.Spec PyProof.Rows L2 Mir
end Y
end Mir

/-! Mir: fractions added up by the laws. -/
namespace Mir
namespace Y
open PySem PySem.Spec PyProof.Rows L2 Mir
/-- fractions over one number -/
structure Ov (U : Int) (q : Rat) : Prop where
  ex : ∃ n : Int, q = Rat.divInt n U ∧ n.natAbs ≤ 2 ^ 2201
structure OkU (U : Int) : Prop where
  pos : 0 < U
  small : U.natAbs ≤ 2 ^ 2201
theorem pow_mul_le {a b : Nat} (h : b ≤ 1000) : b * 2 ^ a ≤ 2 ^ (a + 10) := by
  rw [Nat.pow_add, Nat.mul_comm]
  exact Nat.mul_le_mul_left _ (Nat.le_trans h (by decide))
end Y
end Mir

/-! Mir: what comes to rooms and what deeds come to, by the laws. -/
namespace Mir
namespace Y
open PySem PySem.Spec PyProof.Rows L2 Mir
open Sx (sm)
section
variable {m : Mem} {c : Cha} {U : Int} {g : Nat → Int} {P : D → Mem → Prop}
end
end Y
end Mir

/-! Mir: fractions and heaps looked at by the laws; goes that part. -/
namespace Mir
namespace Y
open PySem PySem.Spec PyProof.Rows L2 Mir
open Sx (sm)
section
variable {m : Mem} {c : Cha} {U : Int} {g : Nat → Int} {P : D → Mem → Prop}
/-- goes that part two rooms -/
structure GoP (r : Rows') (w : Nat) (U : Int) (g : Nat → Int) (one other : Nat) : Prop where
  ne : one ≠ other
  room : ∀ a, a < r.length → net r g a = U * ((if a = other then 1 else 0) - (if a = one then 1 else 0))
  deed : ∀ k, k < w → dsm r g k = 0
end
end Y
end Mir

/-! Mir: rooms parted, deeds barred, by the program. -/
namespace Mir
namespace Y
open PySem PySem.Spec PyProof.Rows L2 Mir
open Sx (sm)
section
variable {m : Mem} {c : Cha} {P : D → Mem → Prop}
/-- what a heap that parts is -/
structure Prt (r : Rows') (w : Nat) (x : Hea) (L : Nat → Int) (one other : Nat) : Prop where
  t : x.t.length = w
  l : x.l.length = w
  stn : Stn r x L
  s0 : 0 ≤ x.s
  t0 : ∀ v ∈ x.t, 0 ≤ v
  l0 : ∀ v ∈ x.l, 0 ≤ v
  ne : cntH x L one ≠ cntH x L other
  few : ∀ a, a < r.length → (cntH x L a).natAbs ≤ 2 ^ 1053
  fine : ∀ a, a < r.length → ((cntH x L a).natAbs : Int) ≤ 4 * 3 ^ (r.length + w + 1)
/-- numbers over one that are no greater than the map's size tells -/
structure Fine (r : Rows') (w : Nat) (U : Int) (g : Nat → Int) : Prop where
  us : (U.natAbs : Int) ≤ 3 ^ (r.length + w + 1)
  gs : ∀ p, ((g p).natAbs : Int) ≤ 3 ^ (r.length + w + 1)
end
end Y
end Mir

/-! Mir: deeds barred. -/
namespace Mir
namespace Y
open PySem PySem.Spec PyProof.Rows L2 Mir
open Sx (sm)
section
variable {m : Mem} {c : Cha} {U : Int} {g wt : Nat → Int} {P : D → Mem → Prop}
/-- a heap that bars a deed at a room -/
structure Brd (r : Rows') (w : Nat) (x : Hea) (L : Nat → Int) (room k : Nat) : Prop where
  t : x.t.length = w
  l : x.l.length = w
  stn : Stn r x L
  s0 : 0 ≤ x.s
  t0 : ∀ v ∈ x.t, 0 ≤ v
  l0 : ∀ v ∈ x.l, 0 ≤ v
  lt : cntH x L room < tk x k
  few : ∀ a, a < r.length → (cntH x L a).natAbs ≤ 2 ^ 1053
  fine : ∀ a, a < r.length → ((cntH x L a).natAbs : Int) ≤ 4 * 3 ^ (r.length + w + 1)
/-- weights that are right, with goes -/
structure Wts (r : Rows') (U : Int) (g wt : Nat → Int) (begin' k : Nat) : Prop where
  nn : ∀ a, a < r.length → 0 ≤ wt a
  out : ∀ a, a < r.length → hasW r k a = false → wt a ≤ 0
  one : sm r.length wt = U
  room : ∀ a, a < r.length → net r g a = wt a - U * (if a = begin' then 1 else 0)
structure GoB (r : Rows') (w : Nat) (U : Int) (g wt : Nat → Int) (room k : Nat) : Prop where
  no : hasW r k room = false
  wts : Wts r U g wt room k
  deed : ∀ j, j < w → dsm r g j = 0
end
end Y
end Mir

/-! Mir: goes that bar, by the laws; rooms with deeds that have no way there. -/
namespace Mir
namespace Y
open PySem PySem.Spec PyProof.Rows L2 Mir
open Sx (sm)
section
variable {m : Mem} {c : Cha} {U : Int} {g wt : Nat → Int} {P : D → Mem → Prop}
end
end Y
end Mir

/-! Mir: small things that several laws draw. -/
namespace Mir
namespace Y
open PySem PySem.Spec PyProof.Rows L2 Mir
theorem ix4 {k a b c d : Nat} {m : Mem} (h : k < 4) : ∃ v : Nat, (v = a ∨ v = b ∨ v = c ∨ v = d) ∧ gIx (.lst [.int (a : Nat), .int (b : Nat), .int (c : Nat), .int (d : Nat)]) (.int (k : Nat)) m = .ok (.int (v : Nat)) m := by
  have : k = 0 ∨ k = 1 ∨ k = 2 ∨ k = 3 := by omega
  rcases this with rfl | rfl | rfl | rfl
  · exact ⟨a, .inl rfl, by simp⟩
  · exact ⟨b, .inr (.inl rfl), by simp⟩
  · exact ⟨c, .inr (.inr (.inl rfl)), by simp⟩
  · exact ⟨d, .inr (.inr (.inr rfl)), by simp⟩
theorem Nms.nodup {ns : List Str} (h : Nms ns) : ns.Nodup := by
  refine h.up.imp fun {a b} hab e => ?_
  subst e
  exact absurd hab (List.lt_irrefl _)
end Y
end Mir

/-! Mir: rows of deeds; steps told; rows shown. -/
namespace Mir
namespace Y
open PySem PySem.Spec PyProof.Rows L2 Mir
open Sx (sm)
theorem Pth.congr {r : Rows'} {w : Nat} (hwid : ∀ x ∈ r, x.length = w) {e e' : Nat → Int} (he : ∀ k, k < w → e k = e' k) {a : Nat} {s : Int} (p : Pth r e a s) : Pth r e' a s := by
  induction p with
  | zero => exact .zero
  | step _ hw ih =>
    rw [he _ (way_wid hwid hw).2]
    exact ih.step hw
theorem IsLow.congr {r : Rows'} {w : Nat} (hwid : ∀ x ∈ r, x.length = w) {e e' L : Nat → Int} (he : ∀ k, k < w → e k = e' k) (h : IsLow r e L) : IsLow r e' L :=
  ⟨h.z, fun a k b hw => by rw [← he _ (way_wid hwid hw).2]; exact h.w a k b hw, fun a ha => Pth.congr hwid he (h.p a ha)⟩
section
variable {m : Mem} {c : Cha} {P : D → Mem → Prop}
def gon (w : Nat) (ks : List Nat) : List Int := (List.range w).map fun j => ((ks.count j : Nat) : Int)
theorem en_gon {w j : Nat} {ks : List Nat} (h : j < w) : en (gon w ks) j = (ks.count j : Nat) := en_range h
/-- weights and goes that show a step -/
structure Stp' (r : Rows') (w : Nat) (U : Int) (g wt : Nat → Int) (k : Nat) (gone : List Int) : Prop where
  wts : Wts r U g wt 0 k
  nn : ∀ p, p < (wayL r).length → 0 ≤ g p
  deed : ∀ j, j < w → dsm r g j = U * en gone j
/-- a heap that bears and bars behind so many of each deed -/
structure Bhd (r : Rows') (w : Nat) (x : Hea) (k : Nat) (gone : List Int) : Prop where
  t : x.t.length = w
  l : x.l.length = w
  s0 : 0 ≤ x.s
  t0 : ∀ v ∈ x.t, 0 ≤ v
  l0 : ∀ v ∈ x.l, 0 ≤ v
  bears : Bears r x
  lt : x.s + sm w (fun j => en (effL x) j * en gone j) < tk x k
/-- steps as they are told -/
structure Ste where
  g : Nat → Int
  wt : Nat → Int
  U : Int
structure OkSte (r : Rows') (w : Nat) (s : Ste) (k : Nat) (gone : List Int) : Prop where
  u : OkU s.U
  gb : ∀ p, (s.g p).natAbs ≤ 2 ^ 1051
  wb : ∀ p, (s.wt p).natAbs ≤ 2 ^ 1051
  st : Stp' r w s.U s.g s.wt k gone
end
end Y
end Mir

/-! Mir: steps looked at by the laws. -/
namespace Mir
namespace Y
open PySem PySem.Spec PyProof.Rows L2 Mir
open Sx (sm)
section
variable {m : Mem} {c : Cha} {P : D → Mem → Prop} {ks : List Nat}
structure BdSte (s : Ste) : Prop where
  u : OkU s.U
  gb : ∀ p, (s.g p).natAbs ≤ 2 ^ 2209
  wb : ∀ p, (s.wt p).natAbs ≤ 2 ^ 2209
/-- all steps are right -/
def AllSt (c : Cha) (ks : List Nat) (ss : List Ste) : Prop := ∀ at' s, ss[at']? = some s → Stp' c.r c.n.length s.U s.g s.wt (nth ks at') (gon c.n.length (ks.take at'))
end
end Y
end Mir

/-! Mir: rows drawn; what is told of rows, its form. -/
namespace Mir
namespace Y
open PySem PySem.Spec PyProof.Rows L2 Mir
section
variable {m : Mem} {c : Cha} {P : D → Mem → Prop} {i : Nat}
theorem OkSte.bd {r : Rows'} {w k : Nat} {s : Ste} {gone : List Int} (h : OkSte r w s k gone) : BdSte s :=
  ⟨h.u, fun p => Nat.le_trans (h.gb p) (Nat.pow_le_pow_right (by decide) (by decide)), fun p => Nat.le_trans (h.wb p) (Nat.pow_le_pow_right (by decide) (by decide))⟩
end
end Y
end Mir

/-! Mir: goes looked at by the program. -/
namespace Mir
namespace Y
open PySem PySem.Spec PyProof.Rows L2 Mir
open Sx (sm)
section
variable {m : Mem} {c : Cha} {U : Int} {g wt : Nat → Int} {P : D → Mem → Prop}
end
end Y
end Mir

/-! Mir: goes, weights, steps, papers looked at by the program. -/
namespace Mir
namespace Y
open PySem PySem.Spec PyProof.Rows L2 Mir
open Sx (sm)
section
variable {m : Mem} {c : Cha} {U : Int} {g wt : Nat → Int} {P : D → Mem → Prop}
/-- weights alone -/
structure Wt0 (r : Rows') (U : Int) (wt : Nat → Int) (k : Nat) : Prop where
  nn : ∀ a, a < r.length → 0 ≤ wt a
  out : ∀ a, a < r.length → hasW r k a = false → wt a ≤ 0
  one : sm r.length wt = U
end
end Y
end Mir

/-! Mir: heaps that stand against goes: counts alike, enough; a yard's own heaps stand in its map. -/
namespace Mir
namespace Y
open PySem PySem.Spec PyProof.Rows L2 Mir
open Sx (sm)
/-! ### weak duality -/
theorem dual_sum {r : Rows'} {w : Nat} {e L g : Nat → Int} (ok : OkRows w r) (hL : IsLev r e L) : sm r.length (fun a => net r g a * L a) = sm w fun k => dsm r g k * e k := by
  have h1 : sm r.length (fun a => net r g a * L a) = sm (wayL r).length fun p => g p * (L (wy r p).2.2 - L (wy r p).1) := by
    unfold net
    rw [Sx.sm_congr (fun a _ => (Sx.sm_mulr (L a) _ (wayL r).length).symm), Sx.sm_comm (fun a p => g p * ((if a = (wy r p).2.2 then 1 else 0) - (if a = (wy r p).1 then 1 else 0)) * L a)]
    refine Sx.sm_congr fun p hp => ?_
    have hw := wy_way hp
    have h1 := (way_wid ok.wid hw).1
    have h2 := ok.rng _ _ _ hw
    rw [Sx.sm_congr (g := fun a => g p * ((if a = (wy r p).2.2 then 1 else 0) * L a - (if a = (wy r p).1 then 1 else 0) * L a)) (fun a _ => by rw [Int.mul_assoc, Int.sub_mul]), Sx.sm_mul, Sx.sm_sub, Sx.sm_at h2, Sx.sm_at h1, Int.one_mul, Int.one_mul]
  have h2 : (sm w fun k => dsm r g k * e k) = sm (wayL r).length fun p => g p * e (wy r p).2.1 := by
    unfold dsm
    rw [Sx.sm_congr (fun k _ => (Sx.sm_mulr (e k) _ (wayL r).length).symm), Sx.sm_comm (fun k p => g p * (if k = (wy r p).2.1 then 1 else 0) * e k)]
    refine Sx.sm_congr fun p hp => ?_
    have h3 := (way_wid ok.wid (wy_way hp)).2
    rw [Sx.sm_congr (g := fun k => g p * ((if k = (wy r p).2.1 then 1 else 0) * e k)) (fun a _ => by rw [Int.mul_assoc]), Sx.sm_mul, Sx.sm_at h3, Int.one_mul]
  rw [h1, h2]
  refine Sx.sm_congr fun p hp => ?_
  rw [hL.w _ _ _ (wy_way hp)]
  congr 1
  omega
theorem GoP.alike {r : Rows'} {w : Nat} {U : Int} {g : Nat → Int} {one other : Nat} {x : Hea} {L : Nat → Int} (ok : OkRows w r) (h : GoP r w U g one other) (hU : 0 < U) (h1 : one < r.length) (h2 : other < r.length) (st : Stn r x L) : cntH x L one = cntH x L other := by
  have h3 := dual_sum (g := g) ok st.lev
  rw [Sx.sm_zero' (n := w) (fun k hk => by rw [h.deed k hk, Int.zero_mul]), Sx.sm_congr (g := fun a => U * ((if a = other then 1 else 0) * L a - (if a = one then 1 else 0) * L a)) (fun a ha => by rw [h.room a ha, Int.mul_assoc, Int.sub_mul]), Sx.sm_mul, Sx.sm_sub, Sx.sm_at h2, Sx.sm_at h1] at h3
  have h4 : L other - L one = 0 := by
    rcases Int.mul_eq_zero.mp h3 with h | h <;> omega
  unfold cntH
  omega
theorem GoB.count {r : Rows'} {w : Nat} {U : Int} {g wt : Nat → Int} {room k : Nat} {x : Hea} {L : Nat → Int} (ok : OkRows w r) (h : GoB r w U g wt room k) (hr : room < r.length) (st : Stn r x L) : (sm r.length fun a => wt a * cntH x L a) = U * cntH x L room := by
  have h3 := dual_sum (g := g) ok st.lev
  rw [Sx.sm_zero' (n := w) (fun k hk => by rw [h.deed k hk, Int.zero_mul]), Sx.sm_congr (g := fun a => wt a * L a - U * ((if a = room then 1 else 0) * L a)) (fun a ha => by rw [h.wts.room a ha, Int.sub_mul, Int.mul_assoc]), Sx.sm_sub, Sx.sm_mul, Sx.sm_at hr, Int.one_mul] at h3
  unfold cntH
  rw [Sx.sm_congr (g := fun a => wt a * x.s + wt a * L a) (fun a _ => Int.mul_add _ _ _), Sx.sm_add, Sx.sm_mulr, h.wts.one, Int.mul_add]
  omega
theorem GoB.enough {r : Rows'} {w : Nat} {U : Int} {g wt : Nat → Int} {room k : Nat} {x : Hea} {L : Nat → Int} (ok : OkRows w r) (h : GoB r w U g wt room k) (hU : 0 < U) (hr : room < r.length) (st : Stn r x L) : tk x k ≤ cntH x L room := by
  have h1 := h.count ok hr st
  have h2 : 0 ≤ sm r.length fun a => wt a * (cntH x L a - tk x k) := Sx.sm_nonneg fun a ha => by
    have nn := h.wts.nn a ha
    cases hh : hasW r k a with
    | false =>
      have := h.wts.out a ha hh
      rw [show wt a = 0 by omega, Int.zero_mul]
      exact Int.le_refl _
    | true =>
      obtain ⟨b, hw⟩ := hasW_iff.mp hh
      exact Int.mul_nonneg nn (by have := st.en a k b hw; omega)
  rw [Sx.sm_congr (g := fun a => wt a * cntH x L a - wt a * tk x k) (fun a _ => Int.mul_sub _ _ _), Sx.sm_sub, Sx.sm_mulr, h1, h.wts.one, ← Int.mul_sub] at h2
  have := Int.nonneg_of_mul_nonneg_right h2 hU
  omega
/-! ### a yard's own heaps -/
structure Own (w : Nat) (r : Rows') : Prop where
  part : ∀ a b, a < r.length → b < r.length → a ≠ b → ∃ x L, Stn r x L ∧ cntH x L a ≠ cntH x L b
  bar : ∀ a k, a < r.length → k < w → hasW r k a = false → ∃ x L, Stn r x L ∧ cntH x L a < tk x k
theorem way_re' {w : Nat} {r : Rows'} (ok : OkRows w r) {ord : List Nat} (h : Ord r.length ord) {a k b : Nat} (hw : way (reR ord r) a k b) : way r (nth ord a) k (nth ord b) := by
  have ok' := ok.re h
  have hl : (reR ord r).length = ord.length := by unfold reR; simp
  have ha : a < ord.length := by rw [← hl]; exact (way_wid ok'.wid hw).1
  have hb : b < ord.length := by rw [← hl]; exact ok'.rng _ _ _ hw
  have ga : ord[a]? = some (nth ord a) := by unfold nth; rw [List.getD_eq_getElem?_getD, List.getElem?_eq_getElem ha]; rfl
  have gb : ord[b]? = some (nth ord b) := by unfold nth; rw [List.getD_eq_getElem?_getD, List.getElem?_eq_getElem hb]; rfl
  have hw' : way (reR ord r) (ord.idxOf (nth ord a)) k (ord.idxOf (nth ord b)) := by rw [h.idx ga, h.idx gb]; exact hw
  have := (way_re h (h.mem.mp (List.mem_of_getElem? gb))).mp hw'
  exact this.1 this.2
theorem nth_lt {ord : List Nat} {a : Nat} (ha : a < ord.length) : ord[a]? = some (nth ord a) := by unfold nth; rw [List.getD_eq_getElem?_getD, List.getElem?_eq_getElem ha]; rfl
theorem Stn.re {w : Nat} {r : Rows'} {x : Hea} {L : Nat → Int} (ok : OkRows w r) {ord : List Nat} (h : Ord r.length ord) (st : Stn r x L) : Stn (reR ord r) x fun a => L (nth ord a) := by
  have hl : (reR ord r).length = ord.length := by unfold reR; simp
  refine ⟨⟨?_, fun a k b hw => st.lev.w _ _ _ (way_re' ok h hw)⟩, fun a ha => ?_, fun a k b hw => st.en _ _ _ (way_re' ok h hw)⟩
  · have h0 := h.head
    have : nth ord 0 = 0 := by
      unfold nth
      rw [List.getD_eq_getElem?_getD, h0]; rfl
    show L (nth ord 0) = 0
    rw [this]
    exact st.lev.z
  · exact st.pos _ (h.mem.mp (List.mem_of_getElem? (nth_lt (by rw [← hl]; exact ha))))
theorem Own.re {w : Nat} {r : Rows'} (ok : OkRows w r) {ord : List Nat} (h : Ord r.length ord) (o : Own w r) : Own w (reR ord r) := by
  have hl : (reR ord r).length = ord.length := by unfold reR; simp
  refine ⟨fun a b ha hb hne => ?_, fun a k ha hk hno => ?_⟩
  · have ga := nth_lt (ord := ord) (a := a) (by omega)
    have gb := nth_lt (ord := ord) (a := b) (by omega)
    obtain ⟨x, L, st, h1⟩ := o.part (nth ord a) (nth ord b) (h.mem.mp (List.mem_of_getElem? ga)) (h.mem.mp (List.mem_of_getElem? gb)) (fun e => hne (by rw [← h.idx ga, ← h.idx gb, e]))
    exact ⟨x, _, st.re ok h, h1⟩
  · have ga := nth_lt (ord := ord) (a := a) (by omega)
    have hal := h.mem.mp (List.mem_of_getElem? ga)
    have hno' : hasW r k (nth ord a) = false := by
      cases hh : hasW r k (nth ord a) with
      | false => rfl
      | true =>
        obtain ⟨b, hw⟩ := hasW_iff.mp hh
        have hw' := (way_re h (ok.rng _ _ _ hw)).mpr ⟨fun _ => hw, hal⟩
        rw [h.idx ga] at hw'
        rw [hasW_iff.mpr ⟨_, hw'⟩] at hno
        cases hno
    obtain ⟨x, L, st, h1⟩ := o.bar (nth ord a) k hal hk hno'
    exact ⟨x, _, st.re ok h, h1⟩
/-! ### a yard's own heaps stand in its map -/
section
variable {hs : List Hea} {sts : List (List Int)} {rows : Rows'} {d : Nat}
theorem led_len {st : List Int} {k : Nat} (h : st.length = hs.length) : (ledL hs st k).length = hs.length := by unfold ledL; simp [h]
theorem led_at {st : List Int} {k i : Nat} {x : Hea} (h : st.length = hs.length) (hx : hs[i]? = some x) : (ledL hs st k).getD i 0 = st.getD i 0 - tk x k + lk x k := by
  have hi := (List.getElem?_eq_some_iff.mp hx).1
  unfold ledL
  rw [List.getD_eq_getElem?_getD, List.getElem?_map, List.getD_eq_getElem?_getD]
  have hz : (st.zip hs)[i]? = some (st[i], x) := List.getElem?_zip_eq_some.mpr ⟨List.getElem?_eq_getElem (by omega), hx⟩
  rw [hz, List.getElem?_eq_getElem (by omega : i < st.length)]
  rfl
theorem there_at {st : List Int} {k i : Nat} {x : Hea} (h : st.length = hs.length) (hx : hs[i]? = some x) (ht : thereB hs st k = true) : tk x k ≤ st.getD i 0 := by
  have hi := (List.getElem?_eq_some_iff.mp hx).1
  have hz : (st.zip hs)[i]? = some (st[i], x) := List.getElem?_zip_eq_some.mpr ⟨List.getElem?_eq_getElem (by omega), hx⟩
  unfold thereB at ht
  have := List.all_eq_true.mp ht _ (List.mem_of_getElem? hz)
  rw [List.getD_eq_getElem?_getD, List.getElem?_eq_getElem (by omega : i < st.length)]
  simpa using this
end
end Y
end Mir

/-! Mir: the laws' sums of fractions that are not in lowest terms. -/
namespace Mir
namespace Y
open PySem PySem.Spec PyProof.Rows L2 Mir
open Sx (sm)
end Y
end Mir

/-! Mir: woven. -/
namespace Mir
namespace Y
open PySem PySem.Spec PyProof.Rows L2 Mir
open Sx (sm)
/-- heaps as they are told -/
structure Told (r : Rows') (w : Nat) (x : Hea) (L : Nat → Int) : Prop where
  t : x.t.length = w
  l : x.l.length = w
  stn : Stn r x L
  s0 : 0 ≤ x.s
  t0 : ∀ v ∈ x.t, 0 ≤ v
  l0 : ∀ v ∈ x.l, 0 ≤ v
  few : ∀ a, a < r.length → (cntH x L a).natAbs ≤ 2 ^ 1053
  fine : ∀ a, a < r.length → ((cntH x L a).natAbs : Int) ≤ 4 * 3 ^ (r.length + w + 1)
theorem Prt.told {r : Rows'} {w : Nat} {x : Hea} {L : Nat → Int} {one other : Nat} (h : Prt r w x L one other) : Told r w x L := ⟨h.t, h.l, h.stn, h.s0, h.t0, h.l0, h.few, h.fine⟩
theorem Brd.told {r : Rows'} {w : Nat} {x : Hea} {L : Nat → Int} {room k : Nat} (h : Brd r w x L room k) : Told r w x L := ⟨h.t, h.l, h.stn, h.s0, h.t0, h.l0, h.few, h.fine⟩
/-- levels of a heap that stands, picked -/
noncomputable def levOf (r : Rows') (x : Hea) : Nat → Int := by
  classical
  exact if h : ∃ L, Stn r x L then h.choose else fun _ => 0
theorem levOf_stn {r : Rows'} {x : Hea} (h : Stands r x) : Stn r x (levOf r x) := by
  unfold levOf
  rw [dif_pos (show ∃ L, Stn r x L from h)]
  exact (show ∃ L, Stn r x L from h).choose_spec
section
variable {m : Mem} {c : Cha} {x : Hea} {P : D → Mem → Prop}
end
section
variable {m : Mem} {c : Cha} {P : D → Mem → Prop}
/-- heaps told for a map: those of pairs, those of deeds -/
structure Wov (r : Rows') (w : Nat) (xs : List Hea) : Prop where
  told : ∀ x ∈ xs, ∃ L, Told r w x L
  few : xs.length ≤ r.length * r.length + r.length * w
theorem Wov.st {r : Rows'} {w : Nat} {xs : List Hea} (h : Wov r w xs) {x : Hea} (hx : x ∈ xs) : Stands r x := by
  obtain ⟨L, hL⟩ := h.told x hx
  exact ⟨L, hL.stn⟩
def ParL (r : Rows') (xs : List Hea) (a b : Nat) : Prop := ∃ x ∈ xs, cntH x (levOf r x) a ≠ cntH x (levOf r x) b
def BarL (r : Rows') (xs : List Hea) (a k : Nat) : Prop := ∃ x ∈ xs, cntH x (levOf r x) a < tk x k
end
end Y
end Mir

/-! Mir: fractions otherwise, papers looked at. -/
namespace Mir
namespace Y
open PySem PySem.Spec PyProof.Rows L2 Mir
open Sx (sm)
/-- numbers over one number, bounded -/
structure FrB (B : Nat) (U : Int) (g : Nat → Int) : Prop where
  pos : 0 < U
  us : U.natAbs ≤ B
  gs : ∀ p, (g p).natAbs ≤ B
theorem FrB.mono {B C : Nat} {U : Int} {g : Nat → Int} (h : FrB B U g) (hBC : B ≤ C) : FrB C U g := ⟨h.pos, Nat.le_trans h.us hBC, fun p => Nat.le_trans (h.gs p) hBC⟩
end Y
end Mir

/-! Mir: papers looked at. -/
namespace Mir
namespace Y
open PySem PySem.Spec PyProof.Rows L2 Mir
open Sx (sm)
theorem sm_bd {f : Nat → Int} {n k : Nat} {B : Nat} (h : ∀ i, (f i).natAbs ≤ B) (hn : n ≤ k) : (sm n f).natAbs ≤ k * B := by
  have h1 := Sx.sm_abs f n
  have h2 : sm n (fun i => ((f i).natAbs : Int)) ≤ sm n (fun _ => (B : Int)) := Sx.sm_le fun i _ => by have := h i; omega
  rw [Sx.sm_const] at h2
  have h3 : (n : Int) * (B : Int) = ((n * B : Nat) : Int) := by simp
  rw [h3] at h2
  have h4 : n * B ≤ k * B := Nat.mul_le_mul_right B hn
  omega
theorem GoB.us {r : Rows'} {w : Nat} {U : Int} {g wt : Nat → Int} {room k : Nat} (h : GoB r w U g wt room k) (hn : r.length ≤ 12) (hw : ∀ p, (wt p).natAbs ≤ 2 ^ 1051) : U.natAbs ≤ 2 ^ 1061 := by
  rw [← h.wts.one]
  refine Nat.le_trans (sm_bd hw hn) ?_
  exact pow_mul_le (by decide)
theorem GoP.us {r : Rows'} {w : Nat} {U : Int} {g : Nat → Int} {one other : Nat} (h : GoP r w U g one other) (h2 : other < r.length) (hw : (wayL r).length ≤ 144) (hg : ∀ p, (g p).natAbs ≤ 2 ^ 1051) : U.natAbs ≤ 2 ^ 1061 := by
  have h1 := h.room other h2
  rw [if_pos rfl, if_neg (fun e => h.ne e.symm), Int.sub_zero, Int.mul_one] at h1
  rw [← h1]
  unfold net
  refine Nat.le_trans (sm_bd (B := 2 ^ 1051) (fun i => ?_) hw) (pow_mul_le (by decide))
  rw [Int.natAbs_mul]
  refine Nat.le_trans (Nat.mul_le_mul (hg i) (show _ ≤ 1 by split <;> split <;> decide)) ?_
  rw [Nat.mul_one]
  exact Nat.le_refl _
inductive Pap where
  | alike (one other : Int) (g : Nat → Int) (U : Int)
  | opn (room : Int) (deed : Str) (wt g : Nat → Int) (U : Int)
section
variable {m : Mem} {c : Cha} {P : D → Mem → Prop}
end
end Y
end Mir

/-! Mir: steps looked at by the program. -/
namespace Mir
namespace Y
open PySem PySem.Spec PyProof.Rows L2 Mir
open Sx (sm)
section
variable {m : Mem} {c : Cha} {P : D → Mem → Prop} {ks : List Nat}
end
end Y
end Mir

/-! Mir: comprehensions over any source. -/
namespace Mir
namespace Y
open PySem PySem.Spec PyProof.Rows L2 Mir
end Y
end Mir

namespace Mir
namespace Y
open PySem PySem.Spec PyProof.Rows L2
open Sx (sm)
/-! ### rows that a heap does -/
/-- the count of a heap behind a row -/
def cntR (w : Nat) (x : Hea) (ks : List Nat) : Int := x.s + sm w fun j => en (effL x) j * en (gon w ks) j
/-- a heap does a row -/
def DoneR (w : Nat) (x : Hea) (ks : List Nat) : Prop := ∀ t, t < ks.length → tk x (nth ks t) ≤ cntR w x (ks.take t)
theorem cntR_nil (w : Nat) (x : Hea) : cntR w x [] = x.s := by
  unfold cntR
  rw [Sx.sm_zero' (fun j hj => by rw [en_gon hj]; simp)]
  omega
theorem cntR_snoc {w k : Nat} {x : Hea} (ht : x.t.length = w) (hl : x.l.length = w) (hk : k < w) (ks : List Nat) : cntR w x (ks ++ [k]) = cntR w x ks - tk x k + lk x k := by
  unfold cntR
  have e : (sm w fun j => en (effL x) j * en (gon w (ks ++ [k])) j) = (sm w fun j => en (effL x) j * en (gon w ks) j) + sm w fun j => (if j = k then 1 else 0) * en (effL x) j := by
    rw [← Sx.sm_add]
    refine Sx.sm_congr fun j hj => ?_
    rw [en_gon hj, en_gon hj, List.count_append, List.count_singleton]
    by_cases h : j = k
    · subst h
      simp
      rw [Int.mul_add]
      omega
    · have : (k == j) = false := by simpa using fun e => h e.symm
      simp [h, this]
  have e2 : en (effL x) k = lk x k - tk x k := effL_at ht hl hk
  rw [e, Sx.sm_at hk, e2]
  omega
/-- weak duality for heaps that bear -/
theorem dual_le {r : Rows'} {w : Nat} {e L g : Nat → Int} (ok : OkRows w r) (hL : IsLow r e L) (hg : ∀ p, p < (wayL r).length → 0 ≤ g p) : sm r.length (fun a => net r g a * L a) ≤ sm w fun k => dsm r g k * e k := by
  have h1 : sm r.length (fun a => net r g a * L a) = sm (wayL r).length fun p => g p * (L (wy r p).2.2 - L (wy r p).1) := by
    unfold net
    rw [Sx.sm_congr (fun a _ => (Sx.sm_mulr (L a) _ (wayL r).length).symm), Sx.sm_comm (fun a p => g p * ((if a = (wy r p).2.2 then 1 else 0) - (if a = (wy r p).1 then 1 else 0)) * L a)]
    refine Sx.sm_congr fun p hp => ?_
    have hw := wy_way hp
    have h1 := (way_wid ok.wid hw).1
    have h2 := ok.rng _ _ _ hw
    rw [Sx.sm_congr (g := fun a => g p * ((if a = (wy r p).2.2 then 1 else 0) * L a - (if a = (wy r p).1 then 1 else 0) * L a)) (fun a _ => by rw [Int.mul_assoc, Int.sub_mul]), Sx.sm_mul, Sx.sm_sub, Sx.sm_at h2, Sx.sm_at h1, Int.one_mul, Int.one_mul]
  have h2 : (sm w fun k => dsm r g k * e k) = sm (wayL r).length fun p => g p * e (wy r p).2.1 := by
    unfold dsm
    rw [Sx.sm_congr (fun k _ => (Sx.sm_mulr (e k) _ (wayL r).length).symm), Sx.sm_comm (fun k p => g p * (if k = (wy r p).2.1 then 1 else 0) * e k)]
    refine Sx.sm_congr fun p hp => ?_
    have h3 := (way_wid ok.wid (wy_way hp)).2
    rw [Sx.sm_congr (g := fun k => g p * ((if k = (wy r p).2.1 then 1 else 0) * e k)) (fun a _ => by rw [Int.mul_assoc]), Sx.sm_mul, Sx.sm_at h3, Int.one_mul]
  rw [h1, h2]
  refine Sx.sm_le fun p hp => ?_
  have := hL.w _ _ _ (wy_way hp)
  exact Int.mul_le_mul_of_nonneg_left (by omega) (hg p hp)
/-- a step that is shown: each heap that bears has what the deed takes -/
theorem Stp'.enough {r : Rows'} {w : Nat} {U : Int} {g wt : Nat → Int} {k : Nat} {ks : List Nat} {x : Hea} (ok : OkRows w r) (h : Stp' r w U g wt k (gon w ks)) (hU : 0 < U) (hb : Bears r x) : tk x k ≤ cntR w x ks := by
  obtain ⟨L, hL, hen⟩ := hb
  have h0 : 0 < r.length := ok.pos
  have h3 := dual_le (g := g) ok hL h.nn
  have e1 : (sm w fun k => dsm r g k * eAt (effL x) k) = U * sm w fun j => en (effL x) j * en (gon w ks) j := by
    rw [← Sx.sm_mul]
    refine Sx.sm_congr fun j hj => ?_
    rw [h.deed j hj, Int.mul_assoc, Int.mul_comm (en (gon w ks) j)]
    rfl
  rw [e1, Sx.sm_congr (g := fun a => wt a * L a - U * ((if a = 0 then 1 else 0) * L a)) (fun a ha => by rw [h.wts.room a ha, Int.sub_mul, Int.mul_assoc]), Sx.sm_sub, Sx.sm_mul, Sx.sm_at h0, Int.one_mul, hL.z] at h3
  have h2 : 0 ≤ sm r.length fun a => wt a * (x.s + L a - tk x k) := Sx.sm_nonneg fun a ha => by
    have nn := h.wts.nn a ha
    cases hh : hasW r k a with
    | false =>
      have := h.wts.out a ha hh
      rw [show wt a = 0 by omega, Int.zero_mul]
      exact Int.le_refl _
    | true =>
      obtain ⟨b, hw⟩ := hasW_iff.mp hh
      exact Int.mul_nonneg nn (by have := hen a k b hw; simp only at this; omega)
  have e2 : (sm r.length fun a => wt a * (x.s + L a - tk x k)) = (sm r.length fun a => wt a * L a) + U * (x.s - tk x k) := by
    rw [Sx.sm_congr (g := fun a => wt a * L a + wt a * (x.s - tk x k)) (fun a _ => by rw [← Int.mul_add]; congr 1; omega), Sx.sm_add, Sx.sm_mulr, h.wts.one]
  rw [e2] at h2
  have h4 : 0 ≤ U * (cntR w x ks - tk x k) := by
    unfold cntR
    rw [show x.s + (sm w fun j => en (effL x) j * en (gon w ks) j) - tk x k = (sm w fun j => en (effL x) j * en (gon w ks) j) + (x.s - tk x k) by omega, Int.mul_add]
    omega
  have := Int.nonneg_of_mul_nonneg_right h4 hU
  omega
/-- a row of a map leads to a room -/
inductive Pat (r : Rows') : List Nat → Nat → Prop
  | nil : Pat r [] 0
  | snoc {ks : List Nat} {a k b : Nat} : Pat r ks a → way r a k b → Pat r (ks ++ [k]) b
theorem Pat.deeds {r : Rows'} {w : Nat} (ok : OkRows w r) {ks : List Nat} {a : Nat} (h : Pat r ks a) : a < r.length ∧ ∀ k ∈ ks, k < w := by
  induction h with
  | nil => exact ⟨ok.pos, by simp⟩
  | snoc _ hw ih =>
    refine ⟨ok.rng _ _ _ hw, fun k hk => ?_⟩
    rcases List.mem_append.mp hk with h | h
    · exact ih.2 k h
    · rw [List.mem_singleton.mp h]; exact (way_wid ok.wid hw).2
theorem nth_app {ks : List Nat} {k t : Nat} (h : t < ks.length) : nth (ks ++ [k]) t = nth ks t := by
  unfold nth
  rw [List.getD_eq_getElem?_getD, List.getD_eq_getElem?_getD, List.getElem?_append_left h]
theorem nth_end {ks : List Nat} {k : Nat} : nth (ks ++ [k]) ks.length = k := by
  unfold nth
  rw [List.getD_eq_getElem?_getD]
  simp
theorem done_snoc {w k : Nat} {x : Hea} {ks : List Nat} (h : DoneR w x ks) (h2 : tk x k ≤ cntR w x ks) : DoneR w x (ks ++ [k]) := fun t ht => by
  rw [List.length_append, List.length_singleton] at ht
  by_cases q : t < ks.length
  · rw [nth_app q, List.take_append_of_le_length (by omega)]
    exact h t q
  · rw [show t = ks.length by omega, nth_end, List.take_append_of_le_length (Nat.le_refl _), List.take_length]
    exact h2
theorem Pat.done {r : Rows'} {w : Nat} {x : Hea} (ok : OkRows w r) (ht : x.t.length = w) (hl : x.l.length = w) (hb : Bears r x) {ks : List Nat} {a : Nat} (h : Pat r ks a) : DoneR w x ks := by
  obtain ⟨L, hL, hen⟩ := hb
  have key : x.s + L a ≤ cntR w x ks ∧ DoneR w x ks := by
    induction h with
    | nil => exact ⟨by rw [cntR_nil, hL.z]; omega, fun t h => by cases h⟩
    | @snoc ks a k b _ hw ih =>
      have hk := (way_wid ok.wid hw).2
      have h1 := hL.w _ _ _ hw
      have h2 := hen _ _ _ hw
      rw [effL_at ht hl hk] at h1
      simp only at h2
      refine ⟨by rw [cntR_snoc ht hl hk]; omega, done_snoc ih.2 (by omega)⟩
  exact key.2
theorem AllSt.done {c : Cha} {ks : List Nat} {ss : List Ste} {x : Hea} (ok : OkRows c.n.length c.r) (h : AllSt c ks ss) (hU : ∀ s ∈ ss, 0 < s.U) (hl : ss.length = ks.length) (hb : Bears c.r x) : DoneR c.n.length x ks := fun t ht => by
  have hs := List.getElem?_eq_getElem (l := ss) (i := t) (by omega)
  exact (h t _ hs).enough ok (hU _ (List.mem_of_getElem? hs)) hb
end Y
end Mir

namespace Mir
namespace Y
open PySem PySem.Spec PyProof.Rows L2
open Sx (sm)
/-! ### a map with a way more -/
def ins (g : Nat → Int) (n : Nat) : Nat → Int := fun p => if p < n then g p else if p = n then 0 else g (p - 1)
section
variable {r : Rows'} {w a0 k0 b0 : Nat}
/-- a way more: where it lies, and that goes with a nought there come to the same -/
structure Wdr (r r' : Rows') (w n : Nat) : Prop where
  len : r'.length = r.length
  lw : (wayL r').length = (wayL r).length + 1
  hn : n ≤ (wayL r).length
  ok : OkRows w r'
  up : ∀ a k b, way r a k b → way r' a k b
  no : ∀ a k, hasW r' k a = false → hasW r k a = false
  net : ∀ g a, Y.net r' (ins g n) a = Y.net r g a
  dsm : ∀ g k, Y.dsm r' (ins g n) k = Y.dsm r g k
end
section
variable {r r' : Rows'} {w n : Nat} {U : Int} {g wt : Nat → Int}
end
end Y
end Mir

/-! Mir: the walk of a yard, to the sign. -/
namespace Mir
namespace Y
open PySem PySem.Spec PyProof.Rows L2 Mir
/-! ### the walk -/
def stepS (hs : List Hea) (st : List Int) (sts : List (List Int)) (k : Nat) : List (List Int) × Option Nat :=
  if thereB hs st k = true then (if ledL hs st k ∈ sts then (sts, some (sts.idxOf (ledL hs st k))) else (sts ++ [ledL hs st k], some sts.length)) else (sts, none)
def rowS (hs : List Hea) (st : List Int) : List Nat → List (List Int) → List (List Int) × List (Option Nat)
  | [], sts => (sts, [])
  | k :: ks, sts => ((rowS hs st ks (stepS hs st sts k).1).1, (stepS hs st sts k).2 :: (rowS hs st ks (stepS hs st sts k).1).2)
def stA (sts : List (List Int)) (a : Nat) : List Int := sts.getD a []
def walkS (hs : List Hea) (w most : Nat) : Nat → List (List Int) → Rows' → List (List Int) × Rows'
  | 0, sts, rows => (sts, rows)
  | f + 1, sts, rows => if rows.length < sts.length ∧ sts.length ≤ most then walkS hs w most f (rowS hs (stA sts rows.length) (List.range w) sts).1 (rows ++ [(rowS hs (stA sts rows.length) (List.range w) sts).2]) else (sts, rows)
/-- the walk of a yard, up to so many stands -/
def walkY (y : Yar) (most : Nat) : List (List Int) × Rows' := walkS y.h y.d.length most most [y.h.map Hea.s] []
/-- rows in cells of their own -/
def RowC (m : Mem) (rs : List D) (rows : Rows') : Prop := rs.length = rows.length ∧ ∀ (a : Nat) x, rows[a]? = some x → ∃ q, rs[a]? = some (.ref q) ∧ m[q]? = some (.lst (x.map oD))
theorem RowC.kp {m m' : Mem} {rs : List D} {rows : Rows'} (h : RowC m rs rows) (k : Kp m m') : RowC m' rs rows := ⟨h.1, fun a x e => by
  obtain ⟨q, h1, h2⟩ := h.2 a x e
  exact ⟨q, h1, k.get h2⟩⟩
end Y
end Mir

/-! Mir: the map of a walk; rooms as they come up; maps laid on one another. -/
namespace Mir
namespace Y
open PySem PySem.Spec PyProof.Rows L2 Mir
/-! ### rooms as they come up -/
end Y
end Mir

/-! Mir: rooms as they come up, numbered, laid. -/
namespace Mir
namespace Y
open PySem PySem.Spec PyProof.Rows L2 Mir
/-! ### the plain thing -/
/-! ### two maps alike -/
/-- rooms of one map at rooms of another one: all ways lead alike -/
structure Iso (r r' : Rows') (f : Nat → Nat) : Prop where
  len : r.length = r'.length
  zero : f 0 = 0
  lt : ∀ a, a < r.length → f a < r'.length
  inj : ∀ a b, a < r.length → b < r.length → f a = f b → a = b
  row : ∀ a, a < r.length → rAt r' (f a) = (rAt r a).map (Option.map f)
end Y
end Mir

/-! Mir: come_to, numbered, laid. -/
namespace Mir
namespace Y
open PySem PySem.Spec PyProof.Rows L2 Mir
/-- a map whose rooms all are come to from the first one; a deed may lead nowhere -/
structure ComR (w : Nat) (r : Rows') : Prop where
  pos : 0 < r.length
  wid : ∀ x ∈ r, x.length = w
  rng : ∀ a k b, way r a k b → b < r.length
end Y
end Mir

/-! Mir: things with texts compared; laid; does. -/
namespace Mir
namespace Y
open PySem PySem.Spec PyProof.Rows L2 Mir
/-- some things are told apart by == -/
structure EncP {α : Type} [DecidableEq α] (f : α → D) (k : Nat) (S : α → Prop) : Prop where
  ex : ∃ p : α → PyData, (∀ m n x, S x → toP m (n + k) (f x) = some (p x)) ∧ ∀ x y, S x → S y → PyData.eqv (p x) (p y) = decide (x = y)
theorem Enc.p {α : Type} [DecidableEq α] {f : α → D} {k : Nat} (h : Enc f k) : EncP f k fun _ => True := by
  obtain ⟨p, h1, h2⟩ := h.ex
  exact ⟨p, fun m n x _ => h1 m n x, fun x y _ _ => h2 x y⟩
theorem eqvAll_mapP {α : Type} [DecidableEq α] {p : α → PyData} {S : α → Prop} (h : ∀ x y, S x → S y → PyData.eqv (p x) (p y) = decide (x = y)) : ∀ xs ys : List α, (∀ x ∈ xs, S x) → (∀ y ∈ ys, S y) → PyData.eqvAll (xs.map p) (ys.map p) = decide (xs = ys)
  | [], [], _, _ => rfl
  | [], y :: ys, _, _ => by simp [PyData.eqvAll]
  | x :: xs, [], _, _ => by simp [PyData.eqvAll]
  | x :: xs, y :: ys, hx, hy => by
    show (PyData.eqv (p x) (p y) && PyData.eqvAll (xs.map p) (ys.map p)) = _
    rw [h x y (hx x List.mem_cons_self) (hy y List.mem_cons_self), eqvAll_mapP h xs ys (fun z hz => hx z (List.mem_cons_of_mem _ hz)) (fun z hz => hy z (List.mem_cons_of_mem _ hz)), Bool.eq_iff_iff]
    simp
theorem toPs_mapP {α : Type} {f : α → D} {p : α → PyData} {S : α → Prop} {m : Mem} {n : Nat} (h : ∀ x, S x → toP m n (f x) = some (p x)) : ∀ xs : List α, (∀ x ∈ xs, S x) → mapO (toP m n) (xs.map f) = some (xs.map p)
  | [], _ => rfl
  | x :: xs, hx => by
    rw [List.map_cons, List.map_cons]
    unfold mapO
    rw [h x (hx x List.mem_cons_self), toPs_mapP h xs fun z hz => hx z (List.mem_cons_of_mem _ hz)]
theorem EncP.tup {α : Type} [DecidableEq α] {f : α → D} {k : Nat} {S : α → Prop} (h : EncP f k S) : EncP (fun xs : List α => .tup (xs.map f)) (k + 1) (fun xs => ∀ x ∈ xs, S x) := by
  obtain ⟨p, h1, h2⟩ := h.ex
  exact ⟨fun xs => .tuple (xs.map p), fun m n xs hx => by
    show (mapO (toP m (n + k)) (xs.map f)).map _ = _
    rw [toPs_mapP (h1 m n) xs hx]; rfl, fun xs ys hx hy => eqvAll_mapP h2 xs ys hx hy⟩
theorem EncP.lst {α : Type} [DecidableEq α] {f : α → D} {k : Nat} {S : α → Prop} (h : EncP f k S) : EncP (fun xs : List α => .lst (xs.map f)) (k + 1) (fun xs => ∀ x ∈ xs, S x) := by
  obtain ⟨p, h1, h2⟩ := h.ex
  exact ⟨fun xs => .list (xs.map p), fun m n xs hx => by
    show (mapO (toP m (n + k)) (xs.map f)).map _ = _
    rw [toPs_mapP (h1 m n) xs hx]; rfl, fun xs ys hx hy => eqvAll_mapP h2 xs ys hx hy⟩
theorem EncP.up {α : Type} [DecidableEq α] {f : α → D} {k j : Nat} {S : α → Prop} (h : EncP f k S) (hj : k ≤ j) : EncP f j S := by
  obtain ⟨p, h1, h2⟩ := h.ex
  exact ⟨p, fun m n x hx => by rw [show n + j = (n + (j - k)) + k by omega]; exact h1 m _ x hx, h2⟩
theorem EncP.of {α β : Type} [DecidableEq α] [DecidableEq β] {f : α → D} {k : Nat} {S : α → Prop} (h : EncP f k S) (g : β → α) (hg : ∀ x y, g x = g y → x = y) : EncP (fun x => f (g x)) k (fun x => S (g x)) := by
  obtain ⟨p, h1, h2⟩ := h.ex
  exact ⟨fun x => p (g x), fun m n x hx => h1 m n _ hx, fun x y hx hy => by
    rw [h2 _ _ hx hy, Bool.eq_iff_iff]
    simp
    exact ⟨hg x y, fun e => by rw [e]⟩⟩
theorem EncP.eq {α : Type} [DecidableEq α] {f : α → D} {k : Nat} {S : α → Prop} (h : EncP f k S) (hk : k ≤ 60) {x y : α} (hx : S x) (hy : S y) (hf : flatD (f x) = none) (neg : Bool) (m : Mem) : gEq neg (f x) (f y) m = .ok (.bl (decide (x = y) ^^ neg)) m := by
  obtain ⟨p, h1, h2⟩ := h.ex
  have e1 := fun x hx => h1 m (60 - k) x hx
  rw [show 60 - k + k = 60 by omega] at e1
  unfold gEq
  rw [hf]
  simp only
  unfold eqDeep
  rw [e1 x hx, e1 y hy]
  simp only [h2 x y hx hy]
def GoodS (xs : List Str) : Prop := ∀ x ∈ xs, PyData.strOk x = true
theorem Nm.good {x : Str} (h : Nm x) : PyData.strOk x = true := by
  rw [← S_of x]
  exact strOk_S fun c hc => by
    have := (letL_mem c).mp (h.let' c hc)
    omega
theorem Nms.good {xs : List Str} (h : Nms xs) : GoodS xs := fun x hx => Nm.good (h.nm x hx)
instance : DecidableEq Cha := fun a b => by
  obtain ⟨n, r⟩ := a
  obtain ⟨n', r'⟩ := b
  by_cases h : n = n' ∧ r = r'
  · exact isTrue (by rw [h.1, h.2])
  · exact isFalse fun e => h (by injection e with e1 e2; exact ⟨e1, e2⟩)
section
variable {m : Mem} {P : D → Mem → Prop}
end
end Y
end Mir

/-! Mir: what a walk is; a yard that does a map. -/
namespace Mir
namespace Y
open PySem PySem.Spec PyProof.Rows L2 Mir
variable {hs : List Hea} {st0 : List Int}
/-- what is true of a walk at its end -/
structure WkE (hs : List Hea) (st0 : List Int) (w most : Nat) (sts : List (List Int)) (rows : Rows') : Prop where
  wk : Wk hs st0 sts rows
  le : rows.length ≤ sts.length
  wid : ∀ x ∈ rows, x.length = w
  fin : sts.length ≤ most → rows.length = sts.length
/-- stands at the rooms of a map -/
structure Doe (hs : List Hea) (w : Nat) (r : Rows') (S : Nat → List Int) : Prop where
  zero : S 0 = hs.map Hea.s
  inj : ∀ a b, a < r.length → b < r.length → S a = S b → a = b
  go : ∀ a k b, way r a k b → thereB hs (S a) k = true ∧ ledL hs (S a) k = S b
  no : ∀ a k, a < r.length → k < w → oAt (rAt r a) k = none → thereB hs (S a) k = false
variable {sts : List (List Int)} {rows : Rows'} {w most : Nat} {r : Rows'} {S : Nat → List Int}
theorem oAt_way {r : Rows'} {a k : Nat} (ha : a < r.length) {b : Nat} (h : oAt (rAt r a) k = some b) : way r a k b := by
  refine ⟨rAt r a, rAt_some ha, ?_⟩
  unfold oAt at h
  rw [List.getD_eq_getElem?_getD] at h
  cases hx : (rAt r a)[k]? with
  | none => rw [hx] at h; cases h
  | some o => rw [hx] at h; exact congrArg some h
theorem way_oAt {r : Rows'} {a k b : Nat} (h : way r a k b) : oAt (rAt r a) k = some b := by
  obtain ⟨x, h1, h2⟩ := h
  rw [rAt_eq h1, oAt_eq h2]
/-- each stand of a walk is a room's -/
theorem Doe.all (d : Doe hs w r S) (ok : OkRows w r) (wk : Wk hs (hs.map Hea.s) sts rows) (hw : ∀ x ∈ rows, x.length = w) : ∀ (n b : Nat), b ≤ n → b < sts.length → ∃ a, a < r.length ∧ sts[b]? = some (S a) := by
  intro n
  induction n with
  | zero =>
    intro b hb hl
    have : b = 0 := by omega
    subst this
    exact ⟨0, ok.pos, by rw [wk.st0, d.zero]⟩
  | succ n ih =>
    intro b hb hl
    rcases wk.com b hl with h | ⟨i, k, hib, x, hx, hk⟩
    · subst h
      exact ⟨0, ok.pos, by rw [wk.st0, d.zero]⟩
    · obtain ⟨st, h1, _, h3⟩ := wk.row i k x (some b) hx hk
      obtain ⟨h4, h5⟩ := h3 b rfl
      obtain ⟨a, ha, e⟩ := ih i (by omega) (by omega)
      rw [e] at h1
      cases h1
      have hkw : k < w := by
        have := (List.getElem?_eq_some_iff.mp hk).1
        rw [hw x (List.mem_of_getElem? hx)] at this
        exact this
      cases ho : oAt (rAt r a) k with
      | none => rw [d.no a k ha hkw ho] at h4; cases h4
      | some a' =>
        have hway := oAt_way ha ho
        exact ⟨a', ok.rng _ _ _ hway, by rw [h5, (d.go a k a' hway).2]⟩
theorem Doe.few (d : Doe hs w r S) (ok : OkRows w r) (wk : Wk hs (hs.map Hea.s) sts rows) (hw : ∀ x ∈ rows, x.length = w) : sts.length ≤ r.length := by
  -- the rooms of the stands are unlike
  have hall := fun b hb => d.all ok wk hw b b (Nat.le_refl _) hb
  have hex : ∃ f : Nat → Nat, ∀ b, b < sts.length → f b < r.length ∧ sts[b]? = some (S (f b)) := by
    refine ⟨fun b => if h : b < sts.length then Classical.choose (hall b h) else 0, fun b hb => ?_⟩
    simp only [dif_pos hb]
    exact Classical.choose_spec (hall b hb)
  obtain ⟨f, hf⟩ := hex
  have nd : ((List.range sts.length).map f).Nodup := by
    rw [List.nodup_iff_pairwise_ne, List.pairwise_map]
    refine List.Pairwise.imp_of_mem (fun {a b} ha hb hab => ?_) (List.nodup_iff_pairwise_ne.mp List.nodup_range)
    intro e
    have h1 := hf a (by simpa using ha)
    have h2 := hf b (by simpa using hb)
    rw [e, ← h2.2] at h1
    exact hab ((List.getElem?_inj (by simpa using ha) wk.nd).mp h1.2)
  have := nodup_len r.length _ nd fun a ha => by
    obtain ⟨b, hb, rfl⟩ := List.mem_map.mp ha
    exact (hf b (by simpa using hb)).1
  simpa using this
theorem Doe.met (d : Doe hs w r S) (ok : OkRows w r) (e : WkE hs (hs.map Hea.s) w most sts rows) (hf : rows.length = sts.length) : ∀ a, Com r a → S a ∈ sts := by
  intro a ha
  induction ha with
  | zero => rw [d.zero]; exact List.mem_of_getElem? e.wk.st0
  | @step a k b hc hw ih =>
    obtain ⟨i, hi⟩ := List.mem_iff_getElem?.mp ih
    have hil : i < rows.length := by rw [hf]; exact (List.getElem?_eq_some_iff.mp hi).1
    have hk : k < (rAt rows i).length := by
      rw [e.wid _ (rAt_mem hil)]
      obtain ⟨x, h1, h2⟩ := hw
      rw [← ok.wid x (List.mem_of_getElem? h1)]
      exact (List.getElem?_eq_some_iff.mp h2).1
    obtain ⟨st, h1, h2, h3⟩ := e.wk.row i k _ _ (rAt_some hil) (oAt_get hk)
    rw [hi] at h1
    cases h1
    obtain ⟨g1, g2⟩ := d.go a k b hw
    cases ho : oAt (rAt rows i) k with
    | none => rw [h2 ho] at g1; cases g1
    | some j => rw [← g2]; exact List.mem_of_getElem? (h3 j ho).2
theorem Doe.len (d : Doe hs w r S) (ok : OkRows w r) (e : WkE hs (hs.map Hea.s) w r.length sts rows) : sts.length = r.length ∧ rows.length = sts.length := by
  have h1 := d.few ok e.wk e.wid
  have h2 := e.fin h1
  refine ⟨Nat.le_antisymm h1 ?_, h2⟩
  have hm := d.met ok e h2
  have nd : ((List.range r.length).map fun a => sts.idxOf (S a)).Nodup := by
    rw [List.nodup_iff_pairwise_ne, List.pairwise_map]
    refine List.Pairwise.imp_of_mem (fun {a b} ha hb hab => ?_) (List.nodup_iff_pairwise_ne.mp List.nodup_range)
    intro q
    have ha : a < r.length := by simpa using ha
    have hb : b < r.length := by simpa using hb
    have e1 := List.getElem_idxOf (List.idxOf_lt_length_iff.mpr (hm a (ok.com a ha)))
    have e2 := List.getElem_idxOf (List.idxOf_lt_length_iff.mpr (hm b (ok.com b hb)))
    refine hab (d.inj a b ha hb ?_)
    rw [← e1, ← e2]
    congr 1
  have := nodup_len sts.length _ nd fun i hi => by
    obtain ⟨a, ha, rfl⟩ := List.mem_map.mp hi
    exact List.idxOf_lt_length_iff.mpr (hm a (ok.com a (by simpa using ha)))
  simpa using this
end Y
end Mir

/-! Mir: whether a yard does a map. -/
namespace Mir
namespace Y
open PySem PySem.Spec PyProof.Rows L2 Mir
section
variable {hs : List Hea} {sts : List (List Int)} {rows : Rows'} {w : Nat} {r : Rows'} {S : Nat → List Int}
/-- the walk of a yard that does a map is the map -/
theorem Doe.iso (d : Doe hs w r S) (ok : OkRows w r) (e : WkE hs (hs.map Hea.s) w r.length sts rows) : (∀ k, k < w → ∃ a b, way rows a k b) ∧ ∃ f, Iso rows r f := by
  obtain ⟨hl, hf⟩ := d.len ok e
  have hm := d.met ok e hf
  have hall := fun b hb => d.all ok e.wk e.wid b b (Nat.le_refl _) hb
  have hex : ∃ f : Nat → Nat, ∀ b, b < sts.length → f b < r.length ∧ sts[b]? = some (S (f b)) := by
    refine ⟨fun b => if h : b < sts.length then Classical.choose (hall b h) else 0, fun b hb => ?_⟩
    simp only [dif_pos hb]
    exact Classical.choose_spec (hall b hb)
  obtain ⟨f, hf2⟩ := hex
  have entry : ∀ i k, i < rows.length → k < w → oAt (rAt r (f i)) k = (oAt (rAt rows i) k).map f := fun i k hi hk => by
    have hi2 := hf2 i (by omega)
    obtain ⟨st, h1, h2, h3⟩ := e.wk.row i k _ _ (rAt_some hi) (oAt_get (by rw [e.wid _ (rAt_mem hi)]; exact hk))
    rw [hi2.2] at h1
    cases h1
    cases ho : oAt (rAt rows i) k with
    | none =>
      have hno := h2 ho
      cases hq : oAt (rAt r (f i)) k with
      | none => rfl
      | some b => rw [(d.go _ _ _ (oAt_way hi2.1 hq)).1] at hno; cases hno
    | some j =>
      obtain ⟨h4, h5⟩ := h3 j ho
      cases hq : oAt (rAt r (f i)) k with
      | none => rw [d.no _ _ hi2.1 hk hq] at h4; cases h4
      | some b =>
        have hway := oAt_way hi2.1 hq
        have hj := hf2 j (List.getElem?_eq_some_iff.mp h5).1
        rw [h5, (d.go _ _ _ hway).2] at hj
        show some b = some (f j)
        rw [d.inj b (f j) (ok.rng _ _ _ hway) hj.1 (Option.some.inj hj.2)]
  refine ⟨fun k hk => ?_, f, by omega, ?_, fun a ha => (hf2 a (by omega)).1, fun a b ha hb q => ?_, fun i hi => ?_⟩
  · obtain ⟨a, b, hw⟩ := ok.deed k hk
    have haw := (way_wid ok.wid hw).1
    obtain ⟨i, hi⟩ := List.mem_iff_getElem?.mp (hm a (ok.com a haw))
    have hil := (List.getElem?_eq_some_iff.mp hi).1
    have e1 := hf2 i hil
    rw [hi] at e1
    have e2 := d.inj a (f i) haw e1.1 (Option.some.inj e1.2)
    have e3 := entry i k (by omega) hk
    rw [← e2, way_oAt hw] at e3
    cases ho : oAt (rAt rows i) k with
    | none => rw [ho] at e3; cases e3
    | some j => exact ⟨i, j, oAt_way (by omega) ho⟩
  · have e1 := hf2 0 (List.getElem?_eq_some_iff.mp e.wk.st0).1
    rw [e.wk.st0] at e1
    have e2 := Option.some.inj e1.2
    rw [← d.zero] at e2
    exact (d.inj 0 (f 0) ok.pos e1.1 e2).symm
  · have e1 := hf2 a (by omega)
    have e2 := hf2 b (by omega)
    rw [q, ← e2.2] at e1
    exact (List.getElem?_inj (by omega) e.wk.nd).mp e1.2
  · have hi2 := (hf2 i (by omega)).1
    refine List.ext_getElem? fun k => ?_
    have l1 := ok.wid _ (rAt_mem hi2)
    have l2 := e.wid _ (rAt_mem hi)
    by_cases hk : k < w
    · rw [oAt_get (by omega), List.getElem?_map, oAt_get (by omega)]
      exact congrArg some (entry i k hi hk)
    · rw [List.getElem?_eq_none (by omega), List.getElem?_eq_none (by simp; omega)]
end
section
variable {m : Mem} {P : D → Mem → Prop}
end
end Y
end Mir

/-! Mir: yards of heaps that stand in a map. -/
namespace Mir
namespace Y
open PySem PySem.Spec PyProof.Rows L2 Mir
section
variable {hs : List Hea} {w : Nat} {r : Rows'}
/-- the counts of heaps at a room -/
noncomputable def cntS (r : Rows') (hs : List Hea) (a : Nat) : List Int := hs.map fun x => cntH x (levOf r x) a
theorem there_map (hs : List Hea) (f : Hea → Int) (k : Nat) : thereB hs (hs.map f) k = hs.all fun x => decide (tk x k ≤ f x) := by
  unfold thereB
  induction hs with
  | nil => rfl
  | cons x xs ih => simp only [List.map_cons, List.zip_cons_cons, List.all_cons, ih]
theorem led_map (hs : List Hea) (f : Hea → Int) (k : Nat) : ledL hs (hs.map f) k = hs.map fun x => f x - tk x k + lk x k := by
  unfold ledL
  induction hs with
  | nil => rfl
  | cons x xs ih => simp only [List.map_cons, List.zip_cons_cons, ih]
theorem cntS_go (ok : OkRows w r) (fit : Fit w hs) (st : ∀ x ∈ hs, Stands r x) {a k b : Nat} (hw : way r a k b) : thereB hs (cntS r hs a) k = true ∧ ledL hs (cntS r hs a) k = cntS r hs b := by
  have hk := (way_wid ok.wid hw).2
  refine ⟨?_, ?_⟩
  · unfold cntS
    rw [there_map, List.all_eq_true]
    intro x hx
    exact decide_eq_true ((levOf_stn (st x hx)).en a k b hw)
  · unfold cntS
    rw [led_map]
    refine List.map_congr_left fun x hx => ?_
    have h1 := (levOf_stn (st x hx)).lev.w a k b hw
    rw [effL_at (fit x hx).1 (fit x hx).2 hk] at h1
    unfold cntH
    omega
theorem Doe.cnt (ok : OkRows w r) (fit : Fit w hs) (st : ∀ x ∈ hs, Stands r x) {S : Nat → List Int} (d : Doe hs w r S) : ∀ a, Com r a → S a = cntS r hs a := by
  intro a ha
  induction ha with
  | zero =>
    rw [d.zero]
    unfold cntS
    refine List.map_congr_left fun x hx => ?_
    have := (levOf_stn (st x hx)).lev.z
    unfold cntH
    omega
  | step h hw ih => rw [← (d.go _ _ _ hw).2, ih, (cntS_go ok fit st hw).2]
theorem doe_iff (ok : OkRows w r) (fit : Fit w hs) (st : ∀ x ∈ hs, Stands r x) :
    (∃ S, Doe hs w r S) ↔ (∀ a b, a < b → b < r.length → ParL r hs a b) ∧ ∀ a k, a < r.length → k < w → hasW r k a = false → BarL r hs a k := by
  constructor
  · rintro ⟨S, d⟩
    have hc := fun a ha => d.cnt ok fit st a (ok.com a ha)
    refine ⟨fun a b hab hb => ?_, fun a k ha hk hno => ?_⟩
    · refine Classical.byContradiction fun hn => ?_
      have : S a = S b := by
        rw [hc a (by omega), hc b hb]
        unfold cntS
        refine List.map_congr_left fun x hx => ?_
        refine Classical.byContradiction fun hne => hn ⟨x, hx, hne⟩
      have := d.inj a b (by omega) hb this
      omega
    · have h1 := d.no a k ha hk (by
        unfold hasW at hno
        cases ho : oAt (rAt r a) k with
        | none => rfl
        | some b => rw [ho] at hno; cases hno)
      rw [hc a ha] at h1
      unfold cntS at h1
      rw [there_map] at h1
      obtain ⟨x, hx, h2⟩ := List.all_eq_false.mp h1
      exact ⟨x, hx, by simpa using h2⟩
  · rintro ⟨hp, hb⟩
    refine ⟨cntS r hs, ?_, fun a b ha hb' e => ?_, fun a k b hw => cntS_go ok fit st hw, fun a k ha hk ho => ?_⟩
    · unfold cntS
      refine List.map_congr_left fun x hx => ?_
      have := (levOf_stn (st x hx)).lev.z
      unfold cntH
      omega
    · have key : ∀ a b, a < b → b < r.length → cntS r hs a ≠ cntS r hs b := fun a b hab hb e => by
        obtain ⟨x, hx, hne⟩ := hp a b hab hb
        unfold cntS at e
        exact hne (List.map_inj_left.mp e x hx)
      rcases Nat.lt_trichotomy a b with h | h | h
      · exact absurd e (key a b h hb')
      · exact h
      · exact absurd e.symm (key b a h ha)
    · obtain ⟨x, hx, hlt⟩ := hb a k ha hk (by unfold hasW; rw [ho]; rfl)
      unfold cntS
      rw [there_map]
      exact List.all_eq_false.mpr ⟨x, hx, by simpa using hlt⟩
end
/-! ### lean yards -/
section
variable {m : Mem} {P : D → Mem → Prop}
end
end Y
end Mir

/-! Mir: loose heaps; heaps compared. -/
namespace Mir
namespace Y
open PySem PySem.Spec PyProof.Rows L2 Mir
/-- a heap of effects with a greater start, lesser takes -/
structure Loo (r : Rows') (w : Nat) (es : List Int) (L : Nat → Int) (x : Hea) : Prop where
  t : x.t.length = w
  l : x.l.length = w
  eff : effL x = es
  s : tgtS r L ≤ x.s ∧ x.s ≤ tgtS r L + 2
  t0 : ∀ v ∈ x.t, 0 ≤ v
  l0 : ∀ v ∈ x.l, 0 ≤ v
  pos : ∀ a, a < r.length → 0 ≤ x.s + L a
  en : Enough r x (cntH x L)
section
variable {m : Mem} {c : Cha} {P : D → Mem → Prop} {i : Nat}
theorem Loo.stn {r : Rows'} {w : Nat} {es : List Int} {L : Nat → Int} {x : Hea} (h : Loo r w es L x) (hL : IsLev r (eAt es) L) : Stn r x L := ⟨by rw [h.eff]; exact hL, h.pos, h.en⟩
end
instance : DecidableEq Hea := fun a b => by
  obtain ⟨s, t, l⟩ := a
  obtain ⟨s', t', l'⟩ := b
  by_cases h : s = s' ∧ t = t' ∧ l = l'
  · exact isTrue (by rw [h.1, h.2.1, h.2.2])
  · exact isFalse fun e => h (by injection e with e1 e2 e3; exact ⟨e1, e2, e3⟩)
end Y
end Mir

/-! Mir: the laws' walk of a yard, to the sign. -/
namespace Mir
namespace Y
open PySem PySem.Spec PyProof.Rows L2 Mir
/-! ### a walk's rows are told as they come up -/
end Y
end Mir

/-! Mir: walks by other bounds, how many stands a walk has, the program's walked where it does not raise. -/
namespace Mir
namespace Y
open PySem PySem.Spec PyProof.Rows L2 Mir
/-! ### how many stands -/
/-- a yard that is asked about -/
structure Yd (y : Yar) : Prop where
  nm : Nms y.d
  fit : Fit y.d.length y.h
  hl : y.h.length ≤ 900
  hd : y.d.length ≤ 900
end Y
end Mir

/-! Mir: a walk laid on a map by a dict of rooms (the laws' own does). -/
namespace Mir
namespace Y
open PySem PySem.Spec PyProof.Rows L2 Mir
section
variable {m : Mem}
/-! ### dicts of rooms -/
def updN (f : Nat → Nat) (b c : Nat) : Nat → Nat := fun z => if z = b then c else f z
/-! ### the search -/
structure Lie (w n : Nat) (R R' : Rows') (ord : List Nat) (f : Nat → Nat) (left : List Nat) : Prop where
  nd : ord.Nodup
  z : 0 ∈ ord ∧ f 0 = 0
  lt : ∀ a ∈ ord, a < n ∧ f a < n
  iso : ∀ g, Iso R R' g → ∀ a ∈ ord, g a = f a
  sub : ∀ a ∈ left, a ∈ ord
/-- a room's ways are looked at, those below j -/
def Did (R R' : Rows') (ord : List Nat) (f : Nat → Nat) (a j : Nat) : Prop := ∀ k, k < j → (oAt (rAt R a) k = none ∧ oAt (rAt R' (f a)) k = none) ∨ ∃ b, oAt (rAt R a) k = some b ∧ oAt (rAt R' (f a)) k = some (f b) ∧ b ∈ ord
theorem Lie.len {w n : Nat} {R R' : Rows'} {ord left : List Nat} {f : Nat → Nat} (h : Lie w n R R' ord f left) : ord.length ≤ n := by
  have := nodup_le ord (List.range n) h.nd fun x hx => List.mem_range.mpr (h.lt x hx).1
  rwa [List.length_range] at this
theorem updN_ne {f : Nat → Nat} {b c a : Nat} (h : a ≠ b) : updN f b c a = f a := if_neg h
theorem Did.add {R R' : Rows'} {ord : List Nat} {f : Nat → Nat} {a j b c : Nat} (h : Did R R' ord f a j) (ha : a ∈ ord) (hb : b ∉ ord) : Did R R' (ord ++ [b]) (updN f b c) a j := fun k hk => by
  have ne : ∀ {x}, x ∈ ord → x ≠ b := fun {x} hx e => hb (e ▸ hx)
  rw [updN_ne (ne ha)]
  rcases h k hk with h | ⟨x, h1, h2, h3⟩
  · exact .inl h
  · exact .inr ⟨x, h1, by rw [updN_ne (ne h3)]; exact h2, List.mem_append_left _ h3⟩
theorem oAt_map {x : List (Option Nat)} {g : Nat → Nat} (k : Nat) : oAt (x.map (Option.map g)) k = (oAt x k).map g := by
  unfold oAt
  rw [List.getD_eq_getElem?_getD, List.getD_eq_getElem?_getD, List.getElem?_map]
  cases x[k]? with
  | none => rfl
  | some o => rfl
theorem Iso.at {R R' : Rows'} {g : Nat → Nat} (i : Iso R R' g) {a : Nat} (ha : a < R.length) (k : Nat) : oAt (rAt R' (g a)) k = (oAt (rAt R a) k).map g := by
  rw [i.row a ha, oAt_map]
/-- all rooms are done: the search has found just the one -/
theorem Lie.all {w n : Nat} {R R' : Rows'} {ord : List Nat} {f : Nat → Nat} (h : Lie w n R R' ord f []) (hd : ∀ a ∈ ord, Did R R' ord f a w) (hR : R.length = n) (hwid : ∀ x ∈ R, x.length = w) (hcom : ∀ b, b < n → Com R b) : ∀ a, a < n → a ∈ ord := by
  have key : ∀ b, Com R b → b ∈ ord := fun b hb => by
    induction hb with
    | zero => exact h.z.1
    | @step a k b ha hw ih =>
      have hk := way_wid hwid hw
      rcases hd a ih k hk.2 with ⟨q, _⟩ | ⟨x, q, _, hx⟩
      · rw [way_oAt hw] at q; cases q
      · rw [way_oAt hw] at q
        cases q
        exact hx
  exact fun a ha => key a (hcom a ha)
theorem Lie.found {w n : Nat} {R R' : Rows'} {ord : List Nat} {f : Nat → Nat} (h : Lie w n R R' ord f []) (hd : ∀ a ∈ ord, Did R R' ord f a w) (hR : R.length = n) (hR' : R'.length = n) (hwid : ∀ x ∈ R, x.length = w) (hwid' : ∀ x ∈ R', x.length = w) (hcom : ∀ b, b < n → Com R b) :
    (∃ g, Iso R R' g) ↔ (unl (ord.map fun a => ((f a : Nat) : Int))).length = n := by
  have all := h.all hd hR hwid hcom
  have hl : ord.length = n := by
    refine Nat.le_antisymm h.len ?_
    have := nodup_le (List.range n) ord List.nodup_range fun x hx => all x (List.mem_range.mp hx)
    rwa [List.length_range] at this
  have hl2 : (ord.map fun a => ((f a : Nat) : Int)).length = n := by rw [List.length_map, hl]
  rw [show ((unl (ord.map fun a => ((f a : Nat) : Int))).length = n ↔ (ord.map fun a => ((f a : Nat) : Int)).Nodup) from by rw [← unl_all, hl2]]
  constructor
  · rintro ⟨g, i⟩
    refine List.pairwise_map.mpr (List.Pairwise.imp_of_mem (fun {a b} ha hb hne e => hne ?_) h.nd)
    have e : f a = f b := by omega
    rw [← h.iso g i a ha, ← h.iso g i b hb] at e
    exact i.inj a b (by rw [hR]; exact (h.lt a ha).1) (by rw [hR]; exact (h.lt b hb).1) e
  · intro nd
    have inj : ∀ a b, a ∈ ord → b ∈ ord → f a = f b → a = b := fun a b ha hb e => by
      obtain ⟨x, hx, rfl⟩ := List.getElem_of_mem ha
      obtain ⟨y, hy, rfl⟩ := List.getElem_of_mem hb
      have : x = y := by
        refine (List.getElem_inj (h₀ := by rw [List.length_map]; exact hx) (h₁ := by rw [List.length_map]; exact hy) nd).mp ?_
        simp [e]
      subst this
      rfl
    refine ⟨f, ⟨by rw [hR, hR'], h.z.2, fun a ha => by rw [hR']; exact (h.lt a (all a (by omega))).2, fun a b ha hb e => inj a b (all a (by omega)) (all b (by omega)) e, fun a ha => ?_⟩⟩
    have ha' := all a (by omega)
    have l1 : (rAt R' (f a)).length = w := hwid' _ (rAt_mem (by rw [hR']; exact (h.lt a ha').2))
    have l2 : (rAt R a).length = w := hwid _ (rAt_mem ha)
    refine List.ext_getElem? fun k => ?_
    by_cases hk : k < w
    · rw [oAt_get (by omega), oAt_get (by rw [List.length_map]; omega), oAt_map]
      rcases hd a ha' k hk with ⟨q1, q2⟩ | ⟨b, q1, q2, _⟩
      · rw [q1, q2]; rfl
      · rw [q1, q2]; rfl
    · rw [List.getElem?_eq_none (by omega), List.getElem?_eq_none (by rw [List.length_map]; omega)]
end
end Y
end Mir

/-! Mir: a drawn yard with its map (the laws' doing yard). -/
namespace Mir
namespace Y
open PySem PySem.Spec PyProof.Rows L2 Mir
/-- a yard, and the map that it does -/
structure Dg (most : Nat) (y : Yar) (c : Cha) : Prop where
  ok : OkYar y
  n : c.n = y.d
  r : c.r = (walkY y most).2
  cha : OkCha c
  few : c.r.length ≤ most
  len : (walkY y most).1.length = c.r.length
  doe : ∃ S, Doe y.h c.n.length c.r S
  own : Own c.n.length c.r
  two : 1 < c.r.length
  d1 : 1 ≤ y.d.length
  stn : ∀ x ∈ y.h, Stands c.r x
section
variable {m : Mem} {i : Nat} {P : D → Mem → Prop}
end
theorem nth_zero {n : Nat} {ord : List Nat} (h : Ord n ord) : nth ord 0 = 0 := by
  unfold nth
  rw [List.getD_eq_getElem?_getD, h.head]
  rfl
theorem reR_len {ord : List Nat} {r : Rows'} : (reR ord r).length = ord.length := by unfold reR; simp
/-- a yard does the map in another order, too -/
theorem Doe.re {hs : List Hea} {w : Nat} {r : Rows'} {S : Nat → List Int} (d : Doe hs w r S) (ok : OkRows w r) {ord : List Nat} (h : Ord r.length ord) : Doe hs w (reR ord r) fun a => S (nth ord a) := by
  have hl := h.len
  have lt : ∀ a, a < (reR ord r).length → nth ord a < r.length := fun a ha => h.mem.mp (List.mem_of_getElem? (nth_lt (by rw [reR_len] at ha; exact ha)))
  refine ⟨by rw [nth_zero h]; exact d.zero, fun a b ha hb e => ?_, fun a k b hw => d.go _ _ _ (way_re' ok h hw), fun a k ha hk hno => d.no _ k (lt a ha) hk ?_⟩
  · rw [reR_len] at ha hb
    have := d.inj _ _ (h.mem.mp (List.mem_of_getElem? (nth_lt ha))) (h.mem.mp (List.mem_of_getElem? (nth_lt hb))) e
    rw [← h.idx (nth_lt ha), ← h.idx (nth_lt hb), this]
  · have e : rAt (reR ord r) a = reRow ord (rAt r (nth ord a)) := by
      have ha' : a < ord.length := by rw [reR_len] at ha; exact ha
      have h1 : (reR ord r)[a]? = some (reRow ord (rAt r (nth ord a))) := by
        unfold reR
        rw [List.getElem?_map, nth_lt ha']
        rfl
      have h2 := rAt_some ha
      rw [h1] at h2
      exact (Option.some.inj h2).symm
    rw [e] at hno
    unfold reRow at hno
    rw [oAt_map] at hno
    cases hq : oAt (rAt r (nth ord a)) k with
    | none => rfl
    | some b => rw [hq] at hno; cases hno
instance decYar : DecidableEq Yar := fun a b => decidable_of_iff (a.d = b.d ∧ a.h = b.h) (by cases a; cases b; simp)
end Y
end Mir

/-! Mir: woven, told as a yard or a paper; a map that parts and bars, in another order. -/
namespace Mir
namespace Y
open PySem PySem.Spec PyProof.Rows L2 Mir
open Sx (sm)
theorem Stn.un {w : Nat} {r : Rows'} {x : Hea} {L : Nat → Int} (ok : OkRows w r) {ord : List Nat} (h : Ord r.length ord) (st : Stn (reR ord r) x L) : Stn r x fun a => L (ord.idxOf a) := by
  have wy : ∀ {a k b : Nat}, way r a k b → way (reR ord r) (ord.idxOf a) k (ord.idxOf b) := fun {a k b} hw => (way_re h (ok.rng _ _ _ hw)).mpr ⟨fun _ => hw, (way_wid ok.wid hw).1⟩
  have h0 := h.idx h.head
  refine ⟨⟨?_, fun a k b hw => st.lev.w _ _ _ (wy hw)⟩, fun a ha => ?_, fun a k b hw => st.en _ _ _ (wy hw)⟩
  · show L (ord.idxOf 0) = 0
    rw [h0]
    exact st.lev.z
  · refine st.pos _ ?_
    rw [reR_len]
    exact List.idxOf_lt_length_iff.mpr (h.mem.mpr ha)
theorem Own.un {w : Nat} {r : Rows'} (ok : OkRows w r) {ord : List Nat} (h : Ord r.length ord) (o : Own w (reR ord r)) : Own w r := by
  have lt : ∀ {a : Nat}, a < r.length → ord.idxOf a < (reR ord r).length := fun {a} ha => by
    rw [reR_len]
    exact List.idxOf_lt_length_iff.mpr (h.mem.mpr ha)
  refine ⟨fun a b ha hb hne => ?_, fun a k ha hk hno => ?_⟩
  · obtain ⟨x, L, st, h1⟩ := o.part _ _ (lt ha) (lt hb) (fun e => hne (by
      have g1 := h.get ha
      rw [e, h.get hb] at g1
      exact (Option.some.inj g1).symm))
    exact ⟨x, _, st.un ok h, h1⟩
  · have hno' : hasW (reR ord r) k (ord.idxOf a) = false := by
      cases hh : hasW (reR ord r) k (ord.idxOf a) with
      | false => rfl
      | true =>
        obtain ⟨b, hw⟩ := hasW_iff.mp hh
        have hw' := way_re' ok h hw
        have e : nth ord (ord.idxOf a) = a := by
          unfold nth
          rw [List.getD_eq_getElem?_getD, h.get ha]
          rfl
        rw [e] at hw'
        rw [hasW_iff.mpr ⟨_, hw'⟩] at hno
        cases hno
    obtain ⟨x, L, st, h1⟩ := o.bar _ k (lt ha) hk hno'
    exact ⟨x, _, st.un ok h, h1⟩
theorem own_of {w : Nat} {r : Rows'} {xs : List Hea} (hst : ∀ x ∈ xs, Stands r x) (hp : ∀ a b, a < b → b < r.length → ParL r xs a b) (hb : ∀ a k, a < r.length → k < w → hasW r k a = false → BarL r xs a k) : Own w r := by
  refine ⟨fun a b ha hb' hne => ?_, fun a k ha hk hno => ?_⟩
  · rcases Nat.lt_or_gt_of_ne hne with hlt | hlt
    · obtain ⟨x, hx, q⟩ := hp a b hlt hb'
      exact ⟨x, _, levOf_stn (hst x hx), q⟩
    · obtain ⟨x, hx, q⟩ := hp b a hlt ha
      exact ⟨x, _, levOf_stn (hst x hx), fun e => q e.symm⟩
  · obtain ⟨x, hx, q⟩ := hb a k ha hk hno
    exact ⟨x, _, levOf_stn (hst x hx), q⟩
theorem own_doe {w : Nat} {r : Rows'} {xs : List Hea} (ok : OkRows w r) (fit : Fit w xs) (hst : ∀ x ∈ xs, Stands r x) (h : ∃ S, Doe xs w r S) : Own w r :=
  own_of hst ((doe_iff ok fit hst).mp h).1 ((doe_iff ok fit hst).mp h).2
section
variable {hs : List Hea} {w : Nat} {r : Rows'} {S : Nat → List Int}
theorem Doe.good (d : Doe hs w r S) (s0 : ∀ x ∈ hs, 0 ≤ x.s) (l0 : ∀ x ∈ hs, ∀ k, 0 ≤ lk x k) : ∀ a, Com r a → (S a).length = hs.length ∧ ∀ i, i < hs.length → 0 ≤ (S a).getD i 0 := by
  intro a ha
  induction ha with
  | zero =>
    rw [d.zero]
    refine ⟨by simp, fun i hi => ?_⟩
    rw [List.getD_eq_getElem?_getD, List.getElem?_map, List.getElem?_eq_getElem hi]
    exact s0 _ (List.getElem_mem hi)
  | @step a b k h hw ih =>
    obtain ⟨h1, h2⟩ := d.go _ _ _ hw
    rw [← h2]
    refine ⟨led_len ih.1, fun i hi => ?_⟩
    have hx : hs[i]? = some hs[i] := List.getElem?_eq_getElem hi
    rw [led_at ih.1 hx]
    have q1 := there_at ih.1 hx h1
    have q2 := fun k => l0 _ (List.getElem_mem hi) k
    first
      | (have q3 := q2 k; omega)
      | (have q3 := q2 b; omega)
      | (have q3 := q2 a; omega)
theorem Doe.stn (d : Doe hs w r S) (ok : OkRows w r) (fit : Fit w hs) (s0 : ∀ x ∈ hs, 0 ≤ x.s) (l0 : ∀ x ∈ hs, ∀ k, 0 ≤ lk x k) {i : Nat} {x : Hea} (hx : hs[i]? = some x) : Stn r x fun a => (S a).getD i 0 - x.s := by
  have hi := (List.getElem?_eq_some_iff.mp hx).1
  have hm := List.mem_of_getElem? hx
  refine ⟨⟨?_, fun a k b hw => ?_⟩, fun a ha => ?_, fun a k b hw => ?_⟩
  · show (S 0).getD i 0 - x.s = 0
    rw [d.zero, List.getD_eq_getElem?_getD, List.getElem?_map, hx]
    show x.s - x.s = 0
    omega
  · have g := d.good s0 l0 a (ok.com a (way_wid ok.wid hw).1)
    obtain ⟨h1, h2⟩ := d.go _ _ _ hw
    have := led_at (k := k) g.1 hx
    rw [h2] at this
    show (S b).getD i 0 - x.s = (S a).getD i 0 - x.s + eAt (effL x) k
    rw [effL_at (fit x hm).1 (fit x hm).2 (way_wid ok.wid hw).2]
    omega
  · have g := d.good s0 l0 a (ok.com a ha)
    have := g.2 i hi
    show 0 ≤ x.s + ((S a).getD i 0 - x.s)
    omega
  · have g := d.good s0 l0 a (ok.com a (way_wid ok.wid hw).1)
    obtain ⟨h1, h2⟩ := d.go _ _ _ hw
    have := there_at g.1 hx h1
    show tk x k ≤ x.s + ((S a).getD i 0 - x.s)
    omega
theorem Doe.own (d : Doe hs w r S) (ok : OkRows w r) (fit : Fit w hs) (s0 : ∀ x ∈ hs, 0 ≤ x.s) (l0 : ∀ x ∈ hs, ∀ k, 0 ≤ lk x k) : Own w r :=
  own_doe ok fit (fun x hx => by
    obtain ⟨i, hi⟩ := List.mem_iff_getElem?.mp hx
    exact ⟨_, d.stn ok fit s0 l0 hi⟩) ⟨S, d⟩
end
end Y
end Mir

/-! Mir: the least yard. -/
namespace Mir
namespace Y
open PySem PySem.Spec PyProof.Rows L2 Mir
open Sx (sm)
/-- a step is shown behind a row -/
def Shw (r : Rows') (w : Nat) (ks : List Nat) (k : Nat) : Prop := ∃ U g wt, 0 < U ∧ Stp' r w U g wt k (gon w ks)
/-- a heap that bars behind some row -/
def Hpd (r : Rows') (w : Nat) (x : Hea) : Prop := ∃ k gone, Bhd r w x k gone
def Bar (w : Nat) (x : Hea) (ks : List Nat) (k : Nat) : Prop := cntR w x ks < tk x k
instance (w : Nat) (x : Hea) (ks : List Nat) (k : Nat) : Decidable (Bar w x ks k) := by unfold Bar; infer_instance
theorem Hpd.bears {r : Rows'} {w : Nat} {x : Hea} (h : Hpd r w x) : Bears r x := by obtain ⟨_, _, h⟩ := h; exact h.bears
theorem Hpd.t {r : Rows'} {w : Nat} {x : Hea} (h : Hpd r w x) : x.t.length = w := by obtain ⟨_, _, h⟩ := h; exact h.t
theorem Hpd.l {r : Rows'} {w : Nat} {x : Hea} (h : Hpd r w x) : x.l.length = w := by obtain ⟨_, _, h⟩ := h; exact h.l
theorem Shw.free {r : Rows'} {w k : Nat} {ks : List Nat} {x : Hea} (ok : OkRows w r) (s : Shw r w ks k) (h : Bears r x) : ¬ Bar w x ks k := fun hb => by
  obtain ⟨U, g, wt, hU, st⟩ := s
  have := st.enough ok hU h
  unfold Bar at hb
  omega
theorem Shw.gon {r : Rows'} {w k : Nat} {ks ls : List Nat} (h : gon w ks = gon w ls) (s : Shw r w ks k) : Shw r w ls k := by
  obtain ⟨U, g, wt, hU, st⟩ := s
  exact ⟨U, g, wt, hU, h ▸ st⟩
section
variable {m : Mem} {c : Cha} {P : D → Mem → Prop}
/-- heaps by which the rows up to a length are told -/
structure Ly (r : Rows') (w many : Nat) (hs : List Hea) : Prop where
  hp : ∀ x ∈ hs, Hpd r w x
  all : ∀ ks, ks.length < many → (∀ k ∈ ks, k < w) → (∀ j, j < ks.length → Shw r w (ks.take j) (nth ks j)) → ∀ k, k < w → (∃ x ∈ hs, Bar w x ks k) ∨ Shw r w ks k
/-- one row asked about -/
def Askd (r : Rows') (w : Nat) (hs : List Hea) (rs2 : List (List Nat)) (z : List Nat) (k : Nat) : Prop := (∃ x ∈ hs, Bar w x z k) ∨ (Shw r w z k ∧ ∃ z2 ∈ rs2, gon w z2 = gon w (z ++ [k]))
theorem Askd.more {r : Rows'} {w k : Nat} {hs hs' : List Hea} {rs rs' : List (List Nat)} {z : List Nat} (h : Askd r w hs rs z k) (h1 : ∀ x ∈ hs, x ∈ hs') (h2 : ∀ z ∈ rs, z ∈ rs') : Askd r w hs' rs' z k := by
  rcases h with ⟨x, hx, q⟩ | ⟨s, z2, hz, q⟩
  · exact .inl ⟨x, h1 x hx, q⟩
  · exact .inr ⟨s, z2, h2 z2 hz, q⟩
end
end Y
end Mir

/-! Mir: what is told of all pairs of rooms, in a dict. -/
namespace Mir
namespace Y
open PySem PySem.Spec PyProof.Rows L2 Mir
open Sx (sm)
/-- told of two rooms -/
inductive Tp where
  | hp (x : Hea)
  | go (g : Nat → Int) (U : Int)
structure OkTp (r : Rows') (w a b : Nat) (t : Tp) : Prop where
  hp : ∀ x, t = .hp x → ∃ L, Prt r w x L a b
  go : ∀ g U, t = .go g U → FrB (2 ^ 1061) U g ∧ GoP r w U g a b
/-- no heap that stands parts the rooms -/
def Evn (r : Rows') (a b : Nat) : Prop := ∀ x L, Stn r x L → cntH x L a = cntH x L b
theorem Evn.refl (r : Rows') (a : Nat) : Evn r a a := fun _ _ _ => rfl
theorem Evn.symm {r : Rows'} {a b : Nat} (h : Evn r a b) : Evn r b a := fun x L s => (h x L s).symm
theorem Evn.trans {r : Rows'} {a b c : Nat} (h : Evn r a b) (k : Evn r b c) : Evn r a c := fun x L s => (h x L s).trans (k x L s)
/-! ### pairs of rooms as keys -/
section
variable {m : Mem} {q : Nat} {r : Rows'} {ps : List (Nat × Nat)} {f : Nat × Nat → Tp}
end
/-! ### goes turned about and added -/
theorem GoP.turn {r : Rows'} {w : Nat} {U : Int} {g : Nat → Int} {a b : Nat} (h : GoP r w U g a b) : GoP r w U (fun p => - g p) b a := by
  refine ⟨fun e => h.ne e.symm, fun x hx => ?_, fun k hk => ?_⟩
  · have := h.room x hx
    have e : net r (fun p => - g p) x = - net r g x := by
      unfold net
      rw [show (fun p => - g p * ((if x = (wy r p).2.2 then (1 : Int) else 0) - (if x = (wy r p).1 then 1 else 0))) = fun p => -1 * (g p * ((if x = (wy r p).2.2 then (1 : Int) else 0) - (if x = (wy r p).1 then 1 else 0))) from funext fun p => by rw [Int.neg_mul, Int.neg_one_mul], Sx.sm_mul, Int.neg_one_mul]
    rw [e, this, ← Int.mul_neg]
    congr 1
    omega
  · have := h.deed k hk
    have e : dsm r (fun p => - g p) k = - dsm r g k := by
      unfold dsm
      rw [show (fun p => - g p * (if k = (wy r p).2.1 then (1 : Int) else 0)) = fun p => -1 * (g p * (if k = (wy r p).2.1 then (1 : Int) else 0)) from funext fun p => by rw [Int.neg_mul, Int.neg_one_mul], Sx.sm_mul, Int.neg_one_mul]
    rw [e, this]
    rfl
theorem GoP.add {r : Rows'} {w : Nat} {U V : Int} {g h : Nat → Int} {a b c : Nat} (h1 : GoP r w U g a b) (h2 : GoP r w V h b c) (hac : a ≠ c) : GoP r w (U * V) (fun p => V * g p + U * h p) a c := by
  refine ⟨hac, fun x hx => ?_, fun k hk => ?_⟩
  · have e1 := h1.room x hx
    have e2 := h2.room x hx
    have e : net r (fun p => V * g p + U * h p) x = V * net r g x + U * net r h x := by
      unfold net
      rw [← Sx.sm_mul, ← Sx.sm_mul, ← Sx.sm_add]
      refine Sx.sm_congr fun p _ => ?_
      rw [Int.add_mul, Int.mul_assoc, Int.mul_assoc]
    rw [e, e1, e2]
    generalize (if x = b then (1 : Int) else 0) = tb
    generalize (if x = a then (1 : Int) else 0) = ta
    generalize (if x = c then (1 : Int) else 0) = tc
    grind
  · have e1 := h1.deed k hk
    have e2 := h2.deed k hk
    have e : dsm r (fun p => V * g p + U * h p) k = V * dsm r g k + U * dsm r h k := by
      unfold dsm
      rw [← Sx.sm_mul, ← Sx.sm_mul, ← Sx.sm_add]
      refine Sx.sm_congr fun p _ => ?_
      rw [Int.add_mul, Int.mul_assoc, Int.mul_assoc]
    rw [e, e1, e2]
    simp
end Y
end Mir

/-! Mir: heaps that bear, steps that are shown, of a map in another order. -/
namespace Mir
namespace Y
open PySem PySem.Spec PyProof.Rows L2 Mir
open Sx (sm)
section
variable {r : Rows'} {w : Nat} {ord : List Nat}
theorem nth_idx (ho : Ord r.length ord) {a : Nat} (ha : a < r.length) : nth ord (ord.idxOf a) = a := by
  unfold nth
  rw [List.getD_eq_getElem?_getD, ho.get ha]
  rfl
theorem idx_nth (ho : Ord r.length ord) {i : Nat} (hi : i < r.length) : ord.idxOf (nth ord i) = i := ho.idx (nth_lt (by rw [ho.len]; exact hi))
theorem nth_rng (ho : Ord r.length ord) {i : Nat} (hi : i < r.length) : nth ord i < r.length := ho.mem.mp (List.mem_of_getElem? (nth_lt (by rw [ho.len]; exact hi)))
theorem idx_lt (ho : Ord r.length ord) {a : Nat} (ha : a < r.length) : ord.idxOf a < r.length := by
  have := List.idxOf_lt_length_iff.mpr (ho.mem.mpr ha)
  rwa [ho.len] at this
theorem way_idx (ok : OkRows w r) (ho : Ord r.length ord) {a k b : Nat} (hw : way r a k b) : way (reR ord r) (ord.idxOf a) k (ord.idxOf b) := (way_re ho (ok.rng _ _ _ hw)).mpr ⟨fun _ => hw, (way_wid ok.wid hw).1⟩
theorem Pth.re {e : Nat → Int} (ok : OkRows w r) (ho : Ord r.length ord) {a : Nat} {s : Int} (p : Pth r e a s) : Pth (reR ord r) e (ord.idxOf a) s := by
  induction p with
  | zero =>
    rw [ho.idx ho.head]
    exact .zero
  | step _ hw ih => exact .step ih (way_idx ok ho hw)
theorem Pth.un {e : Nat → Int} (ok : OkRows w r) (ho : Ord r.length ord) {i : Nat} {s : Int} (p : Pth (reR ord r) e i s) : Pth r e (nth ord i) s := by
  induction p with
  | zero =>
    rw [nth_zero ho]
    exact .zero
  | step _ hw ih => exact .step ih (way_re' ok ho hw)
theorem Bears.re {x : Hea} (ok : OkRows w r) (ho : Ord r.length ord) (h : Bears r x) : Bears (reR ord r) x := by
  obtain ⟨L, hL, he⟩ := h
  refine ⟨fun i => L (nth ord i), ⟨?_, fun i k j hw => hL.w _ _ _ (way_re' ok ho hw), fun i hi => ?_⟩, fun i k j hw => he _ _ _ (way_re' ok ho hw)⟩
  · show L (nth ord 0) = 0
    rw [nth_zero ho]
    exact hL.z
  · rw [reR_len, ho.len] at hi
    have := (hL.p _ (nth_rng ho hi)).re ok ho
    rwa [idx_nth ho hi] at this
theorem Bears.un {x : Hea} (ok : OkRows w r) (ho : Ord r.length ord) (h : Bears (reR ord r) x) : Bears r x := by
  obtain ⟨L, hL, he⟩ := h
  refine ⟨fun a => L (ord.idxOf a), ⟨?_, fun a k b hw => hL.w _ _ _ (way_idx ok ho hw), fun a ha => ?_⟩, fun a k b hw => he _ _ _ (way_idx ok ho hw)⟩
  · show L (ord.idxOf 0) = 0
    rw [ho.idx ho.head]
    exact hL.z
  · have := (hL.p (ord.idxOf a) (by rw [reR_len, ho.len]; exact idx_lt ho ha)).un ok ho
    rwa [nth_idx ho ha] at this
end
/-! ### sums over the ways -/
theorem zipIdx_pw {α : Type} (l : List α) : l.zipIdx.Pairwise fun p q => p.2 ≠ q.2 := by
  have h : (l.zipIdx.map Prod.snd).Nodup := by
    rw [List.zipIdx_map_snd]
    exact List.nodup_range'
  exact List.pairwise_map.mp h
theorem wayL_nodup (r : Rows') : (wayL r).Nodup := by
  unfold wayL
  rw [List.Nodup, List.pairwise_flatMap]
  refine ⟨fun p hp => ?_, ?_⟩
  · unfold wayOf
    rw [List.pairwise_filterMap]
    refine (zipIdx_pw _).imp fun {a b} hne x hx y hy e => hne ?_
    subst e
    simp only [Option.map_eq_some_iff] at hx hy
    obtain ⟨u, _, rfl⟩ := hx
    obtain ⟨v, _, e⟩ := hy
    have := congrArg (fun z : Nat × Nat × Nat => z.2.1) e
    exact this.symm
  · refine (zipIdx_pw _).imp fun {a b} hne x hx y hy e => hne ?_
    subst e
    unfold wayOf at hx hy
    rw [List.mem_filterMap] at hx hy
    obtain ⟨u, _, hu⟩ := hx
    obtain ⟨v, _, hv⟩ := hy
    simp only [Option.map_eq_some_iff] at hu hv
    obtain ⟨_, _, rfl⟩ := hu
    obtain ⟨_, _, e⟩ := hv
    have := congrArg (fun z : Nat × Nat × Nat => z.1) e
    exact this.symm
theorem sm_ways (r : Rows') (F : Nat × Nat × Nat → Int) : (sm (wayL r).length fun p => F (wy r p)) = ((wayL r).map F).sum := by
  have key : ∀ (l : List (Nat × Nat × Nat)) (n : Nat), n ≤ l.length → (sm n fun p => F (l.getD p (0, 0, 0))) = ((l.take n).map F).sum := by
    intro l n
    induction n with
    | zero => intro _; simp [sm]
    | succ n ih =>
      intro hn
      show sm n _ + F (l.getD n (0, 0, 0)) = _
      rw [ih (by omega), List.take_add_one, List.getD_eq_getElem?_getD, List.getElem?_eq_getElem (by omega : n < l.length)]
      simp only [List.map_append, List.sum_append, Option.toList_some, List.map_cons, List.map_nil, List.sum_cons, List.sum_nil, Option.getD_some]
      omega
  have := key (wayL r) _ (Nat.le_refl _)
  rw [List.take_length] at this
  exact this
theorem perm_sum {l l' : List Int} (h : l.Perm l') : l.sum = l'.sum := by
  induction h with
  | nil => rfl
  | cons x _ ih => rw [List.sum_cons, List.sum_cons, ih]
  | swap x y l => rw [List.sum_cons, List.sum_cons, List.sum_cons, List.sum_cons]; omega
  | trans _ _ h1 h2 => rw [h1, h2]
/-- a way of the reordered map, told in the first one -/
def bk (ord : List Nat) (v : Nat × Nat × Nat) : Nat × Nat × Nat := (nth ord v.1, v.2.1, nth ord v.2.2)
section
variable {r : Rows'} {w : Nat} {ord : List Nat}
theorem nth_inj (ho : Ord r.length ord) {i j : Nat} (hi : i < r.length) (hj : j < r.length) (h : nth ord i = nth ord j) : i = j := by
  rw [← idx_nth ho hi, ← idx_nth ho hj, h]
theorem way_in (ok : OkRows w r) (ho : Ord r.length ord) {v : Nat × Nat × Nat} (h : v ∈ wayL (reR ord r)) : v.1 < r.length ∧ v.2.2 < r.length ∧ way r (nth ord v.1) v.2.1 (nth ord v.2.2) := by
  have ok2 := ok.re ho
  have hw : way (reR ord r) v.1 v.2.1 v.2.2 := wayL_mem.mp h
  have h1 := (way_wid ok2.wid hw).1
  have h2 := ok2.rng _ _ _ hw
  rw [reR_len, ho.len] at h1 h2
  exact ⟨h1, h2, way_re' ok ho hw⟩
theorem ways_perm (ok : OkRows w r) (ho : Ord r.length ord) : ((wayL (reR ord r)).map (bk ord)).Perm (wayL r) := by
  refine (List.perm_ext_iff_of_nodup ?_ (wayL_nodup r)).mpr fun u => ?_
  · rw [List.Nodup, List.pairwise_map]
    refine List.Pairwise.imp_of_mem (fun {a b} ha hb hne e => hne ?_) (wayL_nodup (reR ord r))
    obtain ⟨a1, a2, _⟩ := way_in ok ho ha
    obtain ⟨b1, b2, _⟩ := way_in ok ho hb
    have e1 := nth_inj ho a1 b1 (congrArg (fun z : Nat × Nat × Nat => z.1) e)
    have e2 : a.2.1 = b.2.1 := by
      show (bk ord a).2.1 = (bk ord b).2.1
      rw [e]
    have e3 := nth_inj ho a2 b2 (congrArg (fun z : Nat × Nat × Nat => z.2.2) e)
    exact Prod.ext e1 (Prod.ext e2 e3)
  · rw [List.mem_map]
    constructor
    · rintro ⟨v, hv, rfl⟩
      exact wayL_mem.mpr (way_in ok ho hv).2.2
    · intro hu
      obtain ⟨a, k, b⟩ := u
      have hw := wayL_mem.mp hu
      refine ⟨(ord.idxOf a, k, ord.idxOf b), wayL_mem.mpr (way_idx ok ho hw), ?_⟩
      unfold bk
      rw [nth_idx ho (way_wid ok.wid hw).1, nth_idx ho (ok.rng _ _ _ hw)]
theorem sm_re (ok : OkRows w r) (ho : Ord r.length ord) (F F' : Nat × Nat × Nat → Int) (h : ∀ v ∈ wayL (reR ord r), F' v = F (bk ord v)) : (sm (wayL (reR ord r)).length fun p => F' (wy (reR ord r) p)) = sm (wayL r).length fun p => F (wy r p) := by
  rw [sm_ways, sm_ways, List.map_congr_left h, show (wayL (reR ord r)).map (fun v => F (bk ord v)) = ((wayL (reR ord r)).map (bk ord)).map F by rw [List.map_map]; rfl]
  exact perm_sum ((ways_perm ok ho).map F)
theorem net_re (ok : OkRows w r) (ho : Ord r.length ord) (G : Nat × Nat × Nat → Int) {i : Nat} (hi : i < r.length) : net (reR ord r) (fun p => G (bk ord (wy (reR ord r) p))) i = net r (fun p => G (wy r p)) (nth ord i) := by
  unfold net
  refine sm_re ok ho (fun u => G u * ((if nth ord i = u.2.2 then 1 else 0) - (if nth ord i = u.1 then 1 else 0))) (fun v => G (bk ord v) * ((if i = v.2.2 then 1 else 0) - (if i = v.1 then 1 else 0))) fun v hv => ?_
  obtain ⟨h1, h2, _⟩ := way_in ok ho hv
  have e1 : (i = v.2.2) ↔ (nth ord i = (bk ord v).2.2) := ⟨fun e => by rw [e]; rfl, fun e => nth_inj ho hi h2 e⟩
  have e2 : (i = v.1) ↔ (nth ord i = (bk ord v).1) := ⟨fun e => by rw [e]; rfl, fun e => nth_inj ho hi h1 e⟩
  simp only [e1, e2]
theorem dsm_re (ok : OkRows w r) (ho : Ord r.length ord) (G : Nat × Nat × Nat → Int) (k : Nat) : dsm (reR ord r) (fun p => G (bk ord (wy (reR ord r) p))) k = dsm r (fun p => G (wy r p)) k := by
  unfold dsm
  exact sm_re ok ho (fun u => G u * (if k = u.2.1 then 1 else 0)) (fun v => G (bk ord v) * (if k = v.2.1 then 1 else 0)) fun v _ => rfl
theorem hasW_re (ok : OkRows w r) (ho : Ord r.length ord) {k i : Nat} (hi : i < r.length) : hasW (reR ord r) k i = hasW r k (nth ord i) := by
  rw [Bool.eq_iff_iff, hasW_iff, hasW_iff]
  constructor
  · rintro ⟨j, h⟩
    exact ⟨_, way_re' ok ho h⟩
  · rintro ⟨b, h⟩
    have := way_idx ok ho h
    rw [idx_nth ho hi] at this
    exact ⟨_, this⟩
theorem sm_ord (ho : Ord r.length ord) (f : Nat → Int) : (sm r.length fun i => f (nth ord i)) = sm r.length f := by
  have key : ∀ (l : List Nat) (n : Nat), n ≤ l.length → (sm n fun p => f (nth l p)) = ((l.take n).map f).sum := by
    intro l n
    induction n with
    | zero => intro _; simp [sm]
    | succ n ih =>
      intro hn
      show sm n _ + f (nth l n) = _
      unfold nth
      unfold nth at ih
      rw [ih (by omega), List.take_add_one, List.getD_eq_getElem?_getD, List.getElem?_eq_getElem (by omega : n < l.length)]
      simp only [List.map_append, List.sum_append, Option.toList_some, List.map_cons, List.map_nil, List.sum_cons, List.sum_nil, Option.getD_some]
      omega
  have e1 := key ord r.length (by rw [ho.len]; exact Nat.le_refl _)
  have e2 := key (List.range r.length) r.length (by simp)
  rw [List.take_of_length_le (by rw [ho.len]; exact Nat.le_refl _)] at e1
  rw [List.take_of_length_le (by simp)] at e2
  rw [e1, perm_sum (ho.perm.map f), ← e2]
  refine Sx.sm_congr fun i hi => ?_
  unfold nth
  rw [List.getD_eq_getElem?_getD, List.getElem?_range hi]
  rfl
theorem Stp'.re (ok : OkRows w r) (ho : Ord r.length ord) {U : Int} {G : Nat × Nat × Nat → Int} {wt : Nat → Int} {k : Nat} {gone : List Int} (h : Stp' r w U (fun p => G (wy r p)) wt k gone) :
    Stp' (reR ord r) w U (fun p => G (bk ord (wy (reR ord r) p))) (fun i => wt (nth ord i)) k gone := by
  have hl : (reR ord r).length = r.length := by rw [reR_len, ho.len]
  refine ⟨⟨fun i hi => h.wts.nn _ (nth_rng ho (by omega)), fun i hi hno => ?_, ?_, fun i hi => ?_⟩, fun p hp => ?_, fun j hj => ?_⟩
  · rw [hasW_re ok ho (by omega)] at hno
    exact h.wts.out _ (nth_rng ho (by omega)) hno
  · rw [hl, sm_ord ho wt]
    exact h.wts.one
  · rw [net_re ok ho G (by omega), h.wts.room _ (nth_rng ho (by omega))]
    have e : (nth ord i = 0) ↔ (i = 0) := ⟨fun e => nth_inj ho (by omega) ok.pos (by rw [e, nth_zero ho]), fun e => by rw [e, nth_zero ho]⟩
    simp only [e]
  · have hv := List.mem_of_getElem? (wy_get hp)
    have hw := (way_in ok ho hv).2.2
    have hm : bk ord (wy (reR ord r) p) ∈ wayL r := wayL_mem.mpr hw
    obtain ⟨p0, h0⟩ := List.mem_iff_getElem?.mp hm
    have hlt := (List.getElem?_eq_some_iff.mp h0).1
    have := h.nn p0 hlt
    have e := wy_get hlt
    rw [h0] at e
    rw [Option.some.inj e]
    exact this
  · rw [dsm_re ok ho G j]
    exact h.deed j hj
theorem Bhd.re (ok : OkRows w r) (ho : Ord r.length ord) {x : Hea} {k : Nat} {gone : List Int} (h : Bhd r w x k gone) : Bhd (reR ord r) w x k gone := ⟨h.t, h.l, h.s0, h.t0, h.l0, h.bears.re ok ho, h.lt⟩
theorem Bhd.un (ok : OkRows w r) (ho : Ord r.length ord) {x : Hea} {k : Nat} {gone : List Int} (h : Bhd (reR ord r) w x k gone) : Bhd r w x k gone := ⟨h.t, h.l, h.s0, h.t0, h.l0, h.bears.un ok ho, h.lt⟩
end
end Y
end Mir

/-! Mir: dicts made of lists of pairs. -/
namespace Mir
namespace Y
open PySem PySem.Spec PyProof.Rows L2 Mir
section
variable {m : Mem} {r : Rows'} {w : Nat} {ord : List Nat}
end
end Y
end Mir

/-! exceptions: reasoning with the mirrors of what may raise -/
namespace Mir
open PySem PySem.Spec PyProof.Rows L2
def TriX {α : Type} (r : R α) (P : α → Mem → Prop) (Ex : Exn → Mem → Prop) : Prop := match r with
  | .ok a m => P a m
  | .exc x m => Ex x m
  | .stk => False
section
variable {α β : Type} (P : α → Mem → Prop) (Ex : Exn → Mem → Prop)
@[simp] theorem trix_ok (a : α) (m : Mem) : TriX (.ok a m) P Ex = P a m := nr rfl
@[simp] theorem trix_stk : TriX (.stk : R α) P Ex = False := nr rfl
@[simp] theorem trix_exc (x : Exn) (m : Mem) : TriX (.exc x m : R α) P Ex = Ex x m := nr rfl
@[simp] theorem trix_bind (r : R β) (f : β → Mem → R α) : TriX (r.bind f) P Ex = TriX r (fun a m => TriX (f a m) P Ex) Ex := by cases r <;> rfl
@[simp] theorem trix_noX (r : R α) : TriX (noX r) P Ex = Tri r P := by cases r <;> rfl
@[simp] theorem trix_ite {c : Prop} [Decidable c] (a b : R α) : TriX (if c then a else b) P Ex = if c then TriX a P Ex else TriX b P Ex := by split <;> rfl
end
theorem Tri.x {α : Type} {r : R α} {P : α → Mem → Prop} {Ex : Exn → Mem → Prop} (h : Tri r P) : TriX r P Ex := by
  cases r with
  | ok a m => exact h
  | _ => exact h.elim
theorem TriX.mono {α : Type} {r : R α} {P Q : α → Mem → Prop} {E F : Exn → Mem → Prop} (h : TriX r P E) (k : ∀ a m, P a m → Q a m) (k' : ∀ x m, E x m → F x m) : TriX r Q F := by
  cases r with
  | ok a m => exact k a m h
  | exc x m => exact k' x m h
  | stk => exact h
def TriSX (r : RS) (N : Env' → Mem → Prop) (Rt : D → Mem → Prop) (Ex : Exn → Mem → Prop) : Prop := match r with
  | .nxt η m => N η m
  | .ret d m => Rt d m
  | .exc x m => Ex x m
  | _ => False
section
variable (η : Env') (m : Mem) (N : Env' → Mem → Prop) (Rt : D → Mem → Prop) (Ex : Exn → Mem → Prop)
@[simp] theorem trisx_nxt : TriSX (.nxt η m) N Rt Ex = N η m := nr rfl
@[simp] theorem trisx_ret (d : D) : TriSX (.ret d m) N Rt Ex = Rt d m := nr rfl
@[simp] theorem trisx_exc (x : Exn) : TriSX (.exc x m) N Rt Ex = Ex x m := nr rfl
@[simp] theorem trisx_stk : TriSX .stk N Rt Ex = False := nr rfl
@[simp] theorem trisx_brk : TriSX (.brk η m) N Rt Ex = False := nr rfl
@[simp] theorem trisx_cnt : TriSX (.cnt η m) N Rt Ex = False := nr rfl
@[simp] theorem trisx_seq (r : RS) (f : SM) : TriSX (r.seq f) N Rt Ex = TriSX r (fun η m => TriSX (f η m) N Rt Ex) Rt Ex := by cases r <;> rfl
@[simp] theorem trisx_toS {α : Type} (r : R α) (f : α → Mem → RS) : TriSX (r.toS f) N Rt Ex = TriX r (fun a m => TriSX (f a m) N Rt Ex) Ex := by cases r <;> rfl
@[simp] theorem trisx_ite {c : Prop} [Decidable c] (a b : RS) : TriSX (if c then a else b) N Rt Ex = if c then TriSX a N Rt Ex else TriSX b N Rt Ex := by split <;> rfl
@[simp] theorem tris_catch (r : RS) (f : Exn → Mem → RS) : TriS (r.catch f) N Rt = TriSX r N Rt fun x m => TriS (f x m) N Rt := by cases r <;> rfl
end
theorem TriS.x {r : RS} {N : Env' → Mem → Prop} {Rt : D → Mem → Prop} {Ex : Exn → Mem → Prop} (h : TriS r N Rt) : TriSX r N Rt Ex := by
  cases r <;> first | exact h | exact h.elim
theorem TriSX.mono {r : RS} {N N' : Env' → Mem → Prop} {Rt Rt' : D → Mem → Prop} {Ex Ex' : Exn → Mem → Prop} (h : TriSX r N Rt Ex) (k : ∀ η m, N η m → N' η m) (k' : ∀ d m, Rt d m → Rt' d m) (k2 : ∀ x m, Ex x m → Ex' x m) : TriSX r N' Rt' Ex' := by
  cases r with
  | nxt η m => exact k η m h
  | ret d m => exact k' d m h
  | exc x m => exact k2 x m h
  | _ => exact h
/-- of a loop's body -/
def TriQX (r : RS) (N B C : Env' → Mem → Prop) (Rt : D → Mem → Prop) (Ex : Exn → Mem → Prop) : Prop := match r with
  | .nxt η m => N η m
  | .brk η m => B η m
  | .cnt η m => C η m
  | .ret d m => Rt d m
  | .exc x m => Ex x m
  | .stk => False
section
variable (η : Env') (m : Mem) (N B C : Env' → Mem → Prop) (Rt : D → Mem → Prop) (Ex : Exn → Mem → Prop)
@[simp] theorem triqx_nxt : TriQX (.nxt η m) N B C Rt Ex = N η m := nr rfl
@[simp] theorem triqx_brk : TriQX (.brk η m) N B C Rt Ex = B η m := nr rfl
@[simp] theorem triqx_cnt : TriQX (.cnt η m) N B C Rt Ex = C η m := nr rfl
@[simp] theorem triqx_ret (d : D) : TriQX (.ret d m) N B C Rt Ex = Rt d m := nr rfl
@[simp] theorem triqx_exc (x : Exn) : TriQX (.exc x m) N B C Rt Ex = Ex x m := nr rfl
@[simp] theorem triqx_stk : TriQX .stk N B C Rt Ex = False := nr rfl
@[simp] theorem triqx_seq (r : RS) (f : SM) : TriQX (r.seq f) N B C Rt Ex = TriQX r (fun η m => TriQX (f η m) N B C Rt Ex) B C Rt Ex := by cases r <;> rfl
@[simp] theorem triqx_toS {α : Type} (r : R α) (f : α → Mem → RS) : TriQX (r.toS f) N B C Rt Ex = TriX r (fun a m => TriQX (f a m) N B C Rt Ex) Ex := by cases r <;> rfl
@[simp] theorem triqx_ite {c : Prop} [Decidable c] (a b : RS) : TriQX (if c then a else b) N B C Rt Ex = if c then TriQX a N B C Rt Ex else TriQX b N B C Rt Ex := by split <;> rfl
@[simp] theorem triq_catch (r : RS) (f : Exn → Mem → RS) : TriQ (r.catch f) N B C Rt = TriQX r N B C Rt fun x m => TriQ (f x m) N B C Rt := by cases r <;> rfl
end
theorem TriQ.x {r : RS} {N B C : Env' → Mem → Prop} {Rt : D → Mem → Prop} {Ex : Exn → Mem → Prop} (h : TriQ r N B C Rt) : TriQX r N B C Rt Ex := by
  cases r <;> first | exact h | exact h.elim
section
variable (η : Env') (m : Mem)
@[simp] theorem ap_xf (cs : List Str) (f : Str) (c : EM) : mXf cs f c η m = (c η m).bind fun x m1 => (match excOf m1 x with
  | some e => if cs.contains e.cls = true then (match e.fs.lookup f with
    | some d => .ok d m1
    | none => .stk) else .stk
  | none => .stk) := nr rfl
@[simp] theorem ap_isE (tb : List (Str × Bool)) (c : EM) : mIsE tb c η m = (c η m).bind fun x m1 => (match excOf m1 x with
  | some e => (match tb.lookup e.cls with
    | some b => .ok (.bl b) m1
    | none => .stk)
  | none => .stk) := nr rfl
end
theorem excOf_ref {m : Mem} {q : Nat} {c : Str} {fs : List (Str × D)} (h : m[q]? = some (.exc c fs)) : excOf m (.ref q) = some ⟨c, fs⟩ := by
  show (match m[q]? with
    | some (Cell.exc c fs) => some (⟨c, fs⟩ : Exn)
    | _ => none) = _
  rw [h]
end Mir

namespace Lw
open PySem PySem.Spec PyProof.Rows L2 Mir Mir.Y
theorem hu1 {A : Around} {k : Nat} (hr : Room k A) : A.units + 65 < cLine := by have := hr.un; omega
theorem hd1 {A : Around} {k : Nat} (hr : Room k A) : A.units + 1 < cLine := by have := hr.un; omega
/-! ### the text -/
def topS (i : Nat) : Stmt := PySem.Challenge.pw_heaploom_k01_refusals.main.body.getD i (.Pass ⟨0, 0, 0, 0⟩)
abbrev st__law_flow : Stmt := topS 12
theorem sc__law_flow : FnScope ["_law_script"] ["_law_script"] (defScope st__law_flow) := ⟨rfl, rfl, rfl, by decide +kernel, rfl, by decide +kernel, by decide +kernel⟩
abbrev st__law_pick : Stmt := topS 13
theorem sc__law_pick : FnScope ["_law_flow_here", "_law_many", "_law_cell", "_law_digit"] ["_law_flow_here", "_law_many"] (defScope st__law_pick) := ⟨rfl, rfl, rfl, by decide +kernel, rfl, by decide +kernel, by decide +kernel⟩
abbrev st__law_word : Stmt := topS 14
theorem sc__law_word : FnScope ["_law_flow_here", "_law_letters", "_law_word_own", "_law_k"] ["_law_flow_here"] (defScope st__law_word) := ⟨rfl, rfl, rfl, by decide +kernel, rfl, by decide +kernel, by decide +kernel⟩
abbrev st__law_thing : Stmt := topS 15
theorem sc__law_thing : FnScope ["_law_flow_here", "_law_form", "_law_k"] ["_law_flow_here"] (defScope st__law_thing) := ⟨rfl, rfl, rfl, by decide +kernel, rfl, by decide +kernel, by decide +kernel⟩
abbrev st__law_made : Stmt := topS 16
theorem sc__law_made : FnScope ["_law_which", "_law_by_name", "_law_one", "_law_other"] ["_law_which", "_law_by_name", "_law_one", "_law_other"] (defScope st__law_made) := ⟨rfl, rfl, rfl, by decide +kernel, rfl, by decide +kernel, by decide +kernel⟩
abbrev st__law_fields : Stmt := topS 17
theorem sc__law_fields : FnScope ["_law_which", "_law_e"] ["_law_which", "_law_e"] (defScope st__law_fields) := ⟨rfl, rfl, rfl, by decide +kernel, rfl, by decide +kernel, by decide +kernel⟩
abbrev st__law_kinds : Stmt := topS 18
theorem sc__law_kinds : FnScope ["_law_e", "_law_loom"] ["_law_e"] (defScope st__law_kinds) := ⟨rfl, rfl, rfl, by decide +kernel, rfl, by decide +kernel, by decide +kernel⟩
abbrev st__law_bases : Stmt := topS 19
theorem sc__law_bases : FnScope ["_law_e", "_law_bases_here"] ["_law_e"] (defScope st__law_bases) := ⟨rfl, rfl, rfl, by decide +kernel, rfl, by decide +kernel, by decide +kernel⟩
abbrev st__law_right : Stmt := topS 20
theorem sc__law_right : FnScope ["_law_which", "_law_e", "_law_due", "_law_loom", "_law_way", "_law_k"] ["_law_which", "_law_e", "_law_due"] (defScope st__law_right) := ⟨rfl, rfl, rfl, by decide +kernel, rfl, by decide +kernel, by decide +kernel⟩
abbrev st_law : Stmt := topS 21
theorem sc_law : FnScope ["_law_script", "_law_flow_here", "_law_first", "_law_k", "_law_which", "_law_things", "_law_by_name", "_law_dues", "_law_one", "_law_other", "_law_j"] ["_law_script"] (defScope st_law) := ⟨rfl, rfl, rfl, by decide +kernel, rfl, by decide +kernel, by decide +kernel⟩
abbrev sti_NoLetter : Stmt := match topS 9 with
  | .ClassDef (body := b) .. => b.getD 0 (.Pass ⟨0, 0, 0, 0⟩)
  | s => s
theorem sci_NoLetter : FnScope ["self", "place"] ["self", "place"] (defScope sti_NoLetter) := ⟨rfl, rfl, rfl, by decide +kernel, rfl, by decide +kernel, by decide +kernel⟩
theorem ok_init_NoLetter {P : Program} {w : World} {K : PySem.W.Frag} {mg : Str → Option Value} {base : Heap} {f : Addr} {fd : FuncData} (F : Fun K "__init__" "NoLetter.__init__" sti_NoLetter f fd) (hm : mg "LookupError" = none) (vV : PySem.W.findCls K (.type "LookupError") (.type "type") "__init__" = some (.val (.builtin "LookupError.__init__"))) : FnOk P w K mg base CX0 (0 + 1) f fd ["self", "place"] (spR1 K "LookupError.__new__" [.type "LookupError", .type "Exception", .type "BaseException", .type "object"] "place") :=
  initR1_ok (tx := "no letter") F sci_NoLetter fun cdv A outer s H E =>
    (pss_cons (ps_expr (pe_rinit root_lookup (by rfl) hm (by rfl) vV (pa_cons (pe_var rfl (.inl rfl)) (pa_cons pe_str pa_nil)))) (pss_cons (ps_ostR root_lookup (pe_var rfl (.inl rfl)) (pe_var rfl (.inl rfl))) pss_nil))
abbrev sti_NoMap : Stmt := match topS 3 with
  | .ClassDef (body := b) .. => b.getD 0 (.Pass ⟨0, 0, 0, 0⟩)
  | s => s
theorem sci_NoMap : FnScope ["self", "word", "at"] ["self", "word", "at"] (defScope sti_NoMap) := ⟨rfl, rfl, rfl, by decide +kernel, rfl, by decide +kernel, by decide +kernel⟩
theorem ok_init_NoMap {P : Program} {w : World} {K : PySem.W.Frag} {mg : Str → Option Value} {base : Heap} {f B : Addr} {fd : FuncData} (F : Fun K "__init__" "NoMap.__init__" sti_NoMap f fd) (hm : mg "LoomError" = some (.ref B)) (LB : LoomC K B) : FnOk P w K mg base CX0 (0 + 1) f fd ["self", "word", "at"] (spI2 K "word" "at") :=
  init2_ok (tx := "no map") F sci_NoMap fun cdv A outer s H E =>
    (pss_cons (ps_expr (pe_linit (by rfl) hm LB (pa_cons (pe_var rfl (.inl rfl)) (pa_cons pe_str pa_nil)))) (pss_cons (ps_ost (pe_var rfl (.inl rfl)) (pe_var rfl (.inl rfl))) (pss_cons (ps_ost (pe_var rfl (.inl rfl)) (pe_var rfl (.inl rfl))) pss_nil)))
abbrev sti_NoName : Stmt := match topS 6 with
  | .ClassDef (body := b) .. => b.getD 0 (.Pass ⟨0, 0, 0, 0⟩)
  | s => s
theorem sci_NoName : FnScope ["self", "name"] ["self", "name"] (defScope sti_NoName) := ⟨rfl, rfl, rfl, by decide +kernel, rfl, by decide +kernel, by decide +kernel⟩
theorem ok_init_NoName {P : Program} {w : World} {K : PySem.W.Frag} {mg : Str → Option Value} {base : Heap} {f B : Addr} {fd : FuncData} (F : Fun K "__init__" "NoName.__init__" sti_NoName f fd) (hm : mg "LoomError" = some (.ref B)) (LB : LoomC K B) : FnOk P w K mg base CX0 (0 + 1) f fd ["self", "name"] (spI1 K "name") :=
  init1_ok (tx := "no name") F sci_NoName fun cdv A outer s H E =>
    (pss_cons (ps_expr (pe_linit (by rfl) hm LB (pa_cons (pe_var rfl (.inl rfl)) (pa_cons pe_str pa_nil)))) (pss_cons (ps_ost (pe_var rfl (.inl rfl)) (pe_var rfl (.inl rfl))) pss_nil))
abbrev sti_NoText : Stmt := match topS 2 with
  | .ClassDef (body := b) .. => b.getD 0 (.Pass ⟨0, 0, 0, 0⟩)
  | s => s
theorem sci_NoText : FnScope ["self", "row"] ["self", "row"] (defScope sti_NoText) := ⟨rfl, rfl, rfl, by decide +kernel, rfl, by decide +kernel, by decide +kernel⟩
theorem ok_init_NoText {P : Program} {w : World} {K : PySem.W.Frag} {mg : Str → Option Value} {base : Heap} {f B : Addr} {fd : FuncData} (F : Fun K "__init__" "NoText.__init__" sti_NoText f fd) (hm : mg "LoomError" = some (.ref B)) (LB : LoomC K B) : FnOk P w K mg base CX0 (0 + 1) f fd ["self", "row"] (spI1 K "row") :=
  init1_ok (tx := "no text") F sci_NoText fun cdv A outer s H E =>
    (pss_cons (ps_expr (pe_linit (by rfl) hm LB (pa_cons (pe_var rfl (.inl rfl)) (pa_cons pe_str pa_nil)))) (pss_cons (ps_ost (pe_var rfl (.inl rfl)) (pe_var rfl (.inl rfl))) pss_nil))
abbrev sti_NoWay : Stmt := match topS 8 with
  | .ClassDef (body := b) .. => b.getD 0 (.Pass ⟨0, 0, 0, 0⟩)
  | s => s
theorem sci_NoWay : FnScope ["self", "deed"] ["self", "deed"] (defScope sti_NoWay) := ⟨rfl, rfl, rfl, by decide +kernel, rfl, by decide +kernel, by decide +kernel⟩
theorem ok_init_NoWay {P : Program} {w : World} {K : PySem.W.Frag} {mg : Str → Option Value} {base : Heap} {f : Addr} {fd : FuncData} (F : Fun K "__init__" "NoWay.__init__" sti_NoWay f fd) (hm : mg "LookupError" = none) (vV : PySem.W.findCls K (.type "LookupError") (.type "type") "__init__" = some (.val (.builtin "LookupError.__init__"))) : FnOk P w K mg base CX0 (0 + 1) f fd ["self", "deed"] (spR1 K "LookupError.__new__" [.type "LookupError", .type "Exception", .type "BaseException", .type "object"] "deed") :=
  initR1_ok (tx := "no way") F sci_NoWay fun cdv A outer s H E =>
    (pss_cons (ps_expr (pe_rinit root_lookup (by rfl) hm (by rfl) vV (pa_cons (pe_var rfl (.inl rfl)) (pa_cons pe_str pa_nil)))) (pss_cons (ps_ostR root_lookup (pe_var rfl (.inl rfl)) (pe_var rfl (.inl rfl))) pss_nil))
abbrev sti_NoYard : Stmt := match topS 4 with
  | .ClassDef (body := b) .. => b.getD 0 (.Pass ⟨0, 0, 0, 0⟩)
  | s => s
theorem sci_NoYard : FnScope ["self", "word", "at"] ["self", "word", "at"] (defScope sti_NoYard) := ⟨rfl, rfl, rfl, by decide +kernel, rfl, by decide +kernel, by decide +kernel⟩
theorem ok_init_NoYard {P : Program} {w : World} {K : PySem.W.Frag} {mg : Str → Option Value} {base : Heap} {f B : Addr} {fd : FuncData} (F : Fun K "__init__" "NoYard.__init__" sti_NoYard f fd) (hm : mg "LoomError" = some (.ref B)) (LB : LoomC K B) : FnOk P w K mg base CX0 (0 + 1) f fd ["self", "word", "at"] (spI2 K "word" "at") :=
  init2_ok (tx := "no yard") F sci_NoYard fun cdv A outer s H E =>
    (pss_cons (ps_expr (pe_linit (by rfl) hm LB (pa_cons (pe_var rfl (.inl rfl)) (pa_cons pe_str pa_nil)))) (pss_cons (ps_ost (pe_var rfl (.inl rfl)) (pe_var rfl (.inl rfl))) (pss_cons (ps_ost (pe_var rfl (.inl rfl)) (pe_var rfl (.inl rfl))) pss_nil)))
abbrev sti_NotDealt : Stmt := match topS 5 with
  | .ClassDef (body := b) .. => b.getD 0 (.Pass ⟨0, 0, 0, 0⟩)
  | s => s
theorem sci_NotDealt : FnScope ["self", "heap"] ["self", "heap"] (defScope sti_NotDealt) := ⟨rfl, rfl, rfl, by decide +kernel, rfl, by decide +kernel, by decide +kernel⟩
theorem ok_init_NotDealt {P : Program} {w : World} {K : PySem.W.Frag} {mg : Str → Option Value} {base : Heap} {f B : Addr} {fd : FuncData} (F : Fun K "__init__" "NotDealt.__init__" sti_NotDealt f fd) (hm : mg "LoomError" = some (.ref B)) (LB : LoomC K B) : FnOk P w K mg base CX0 (0 + 1) f fd ["self", "heap"] (spI1 K "heap") :=
  init1_ok (tx := "not dealt") F sci_NotDealt fun cdv A outer s H E =>
    (pss_cons (ps_expr (pe_linit (by rfl) hm LB (pa_cons (pe_var rfl (.inl rfl)) (pa_cons pe_str pa_nil)))) (pss_cons (ps_ost (pe_var rfl (.inl rfl)) (pe_var rfl (.inl rfl))) pss_nil))
abbrev sti_TooMany : Stmt := match topS 10 with
  | .ClassDef (body := b) .. => b.getD 0 (.Pass ⟨0, 0, 0, 0⟩)
  | s => s
theorem sci_TooMany : FnScope ["self", "most"] ["self", "most"] (defScope sti_TooMany) := ⟨rfl, rfl, rfl, by decide +kernel, rfl, by decide +kernel, by decide +kernel⟩
theorem ok_init_TooMany {P : Program} {w : World} {K : PySem.W.Frag} {mg : Str → Option Value} {base : Heap} {f : Addr} {fd : FuncData} (F : Fun K "__init__" "TooMany.__init__" sti_TooMany f fd) (hm : mg "OverflowError" = none) (vV : PySem.W.findCls K (.type "OverflowError") (.type "type") "__init__" = some (.val (.builtin "OverflowError.__init__"))) : FnOk P w K mg base CX0 (0 + 1) f fd ["self", "most"] (spR1 K "OverflowError.__new__" [.type "OverflowError", .type "ArithmeticError", .type "Exception", .type "BaseException", .type "object"] "most") :=
  initR1_ok (tx := "too many") F sci_TooMany fun cdv A outer s H E =>
    (pss_cons (ps_expr (pe_rinit root_overflow (by rfl) hm (by rfl) vV (pa_cons (pe_var rfl (.inl rfl)) (pa_cons pe_str pa_nil)))) (pss_cons (ps_ostR root_overflow (pe_var rfl (.inl rfl)) (pe_var rfl (.inl rfl))) pss_nil))
/-! ### the mirrors -/
def b__law_fields_s7 : SM := (mRet (mTup (mCons (mXf ["TooMany"] "most" (mVar 1)) mNil)))
def b__law_fields_s6 : SM := mSeq (mIfS (mTest (mOp (gEq false) (mVar 0) (mC (.int 7)))) (mRet (mTup (mCons (mXf ["NoLetter"] "place" (mVar 1)) mNil))) mSkip) b__law_fields_s7
def b__law_fields_s5 : SM := mSeq (mIfS (mTest (mOp (gEq false) (mVar 0) (mC (.int 6)))) (mRet (mTup (mCons (mXf ["NoWay"] "deed" (mVar 1)) mNil))) mSkip) b__law_fields_s6
def b__law_fields_s4 : SM := mSeq (mIfS (mTest (mOp (gEq false) (mVar 0) (mC (.int 5)))) (mRet (mTup mNil)) mSkip) b__law_fields_s5
def b__law_fields_s3 : SM := mSeq (mIfS (mTest (mOp (gEq false) (mVar 0) (mC (.int 4)))) (mRet (mTup (mCons (mXf ["NoName"] "name" (mVar 1)) mNil))) mSkip) b__law_fields_s4
def b__law_fields_s2 : SM := mSeq (mIfS (mTest (mOp (gEq false) (mVar 0) (mC (.int 3)))) (mRet (mTup (mCons (mXf ["NotDealt"] "heap" (mVar 1)) mNil))) mSkip) b__law_fields_s3
def b__law_fields_s1 : SM := mSeq (mIfS (mOr (mTest (mOp (gEq false) (mVar 0) (mC (.int 1)))) (mTest (mOp (gEq false) (mVar 0) (mC (.int 2))))) (mRet (mTup (mCons (mXf ["NoMap", "NoYard"] "word" (mVar 1)) (mCons (mXf ["NoMap", "NoYard"] "at" (mVar 1)) mNil)))) mSkip) b__law_fields_s2
def b__law_fields : SM := mSeq (mIfS (mTest (mOp (gEq false) (mVar 0) (mC (.int 0)))) (mRet (mTup (mCons (mXf ["NoText"] "row" (mVar 1)) mNil))) mSkip) b__law_fields_s1
def m__law_fields : FM := mFn 2 2 b__law_fields
def b__law_kinds_s2 : SM := (mRet (mOp (gAdd false) (mVar 1) (mLst false (mCons (mIsE [("NoLetter", false), ("NoMap", false), ("NoName", false), ("NoRow", false), ("NoText", false), ("NoWay", true), ("NoYard", false), ("NotDealt", false), ("TooMany", false)] (mVar 0)) (mCons (mIsE [("NoLetter", true), ("NoMap", false), ("NoName", false), ("NoRow", false), ("NoText", false), ("NoWay", false), ("NoYard", false), ("NotDealt", false), ("TooMany", false)] (mVar 0)) (mCons (mIsE [("NoLetter", false), ("NoMap", false), ("NoName", false), ("NoRow", false), ("NoText", false), ("NoWay", false), ("NoYard", false), ("NotDealt", false), ("TooMany", true)] (mVar 0)) mNil))))))
def b__law_kinds_s1 : SM := mSeq (mAsg (mOp (gAdd false) (mVar 1) (mLst false (mCons (mIsE [("NoLetter", false), ("NoMap", false), ("NoName", true), ("NoRow", false), ("NoText", false), ("NoWay", false), ("NoYard", false), ("NotDealt", false), ("TooMany", false)] (mVar 0)) (mCons (mIsE [("NoLetter", false), ("NoMap", false), ("NoName", false), ("NoRow", true), ("NoText", false), ("NoWay", false), ("NoYard", false), ("NotDealt", false), ("TooMany", false)] (mVar 0)) mNil)))) (gNm 1)) b__law_kinds_s2
def b__law_kinds : SM := mSeq (mAsg (mLst false (mCons (mIsE [("NoLetter", false), ("NoMap", false), ("NoName", false), ("NoRow", false), ("NoText", true), ("NoWay", false), ("NoYard", false), ("NotDealt", false), ("TooMany", false)] (mVar 0)) (mCons (mIsE [("NoLetter", false), ("NoMap", true), ("NoName", false), ("NoRow", false), ("NoText", false), ("NoWay", false), ("NoYard", false), ("NotDealt", false), ("TooMany", false)] (mVar 0)) (mCons (mIsE [("NoLetter", false), ("NoMap", false), ("NoName", false), ("NoRow", false), ("NoText", false), ("NoWay", false), ("NoYard", true), ("NotDealt", false), ("TooMany", false)] (mVar 0)) (mCons (mIsE [("NoLetter", false), ("NoMap", false), ("NoName", false), ("NoRow", false), ("NoText", false), ("NoWay", false), ("NoYard", false), ("NotDealt", true), ("TooMany", false)] (mVar 0)) mNil))))) (gNm 1)) b__law_kinds_s1
def m__law_kinds : FM := mFn 1 2 b__law_kinds
def b__law_bases_s1 : SM := (mRet (mOp (gAdd false) (mVar 1) (mLst false (mCons (mIsE [("NoLetter", false), ("NoMap", false), ("NoName", false), ("NoRow", false), ("NoText", false), ("NoWay", false), ("NoYard", false), ("NotDealt", false), ("TooMany", true)] (mVar 0)) (mCons (mIsE [("NoLetter", false), ("NoMap", false), ("NoName", false), ("NoRow", false), ("NoText", false), ("NoWay", false), ("NoYard", false), ("NotDealt", false), ("TooMany", false)] (mVar 0)) mNil)))))
def b__law_bases : SM := mSeq (mAsg (mLst false (mCons (mIsE [("NoLetter", false), ("NoMap", true), ("NoName", true), ("NoRow", true), ("NoText", true), ("NoWay", false), ("NoYard", true), ("NotDealt", true), ("TooMany", false)] (mVar 0)) (mCons (mIsE [("NoLetter", false), ("NoMap", true), ("NoName", true), ("NoRow", true), ("NoText", true), ("NoWay", false), ("NoYard", true), ("NotDealt", true), ("TooMany", false)] (mVar 0)) (mCons (mIsE [("NoLetter", true), ("NoMap", false), ("NoName", false), ("NoRow", false), ("NoText", false), ("NoWay", true), ("NoYard", false), ("NotDealt", false), ("TooMany", false)] (mVar 0)) mNil)))) (gNm 1)) b__law_bases_s1
def m__law_bases : FM := mFn 1 2 b__law_bases
def b__law_right_s2 : SM := (mRet (mOp (gEq false) (mCall m__law_bases (mCons (mVar 1) mNil)) (mLst false (mCons (mVar 3) (mCons (mVar 3) (mCons (mVar 4) (mCons (mOp (gEq false) (mVar 0) (mC (.int 8))) (mCons (mC (.bl false)) mNil))))))))
def b__law_right_s1 : SM := mSeq (mPar 3 4 (mCons (mOp gLt (mVar 0) (mC (.int 6))) (mCons (mOp (gIn false) (mVar 0) (mTup (mCons (mC (.int 6)) (mCons (mC (.int 7)) mNil)))) mNil))) b__law_right_s2
def b__law_right : SM := mSeq (mIfS (mOr (mTest (mOp (gEq true) (mCB bRepr (mCons (mCall m__law_fields (mCons (mVar 0) (mCons (mVar 1) mNil))) mNil)) (mCB bRepr (mCons (mVar 2) mNil)))) (mTest (mOp (gEq true) (mCall m__law_kinds (mCons (mVar 1) mNil)) (mLc [5] false (mRng1 (mC (.int 9))) (gNm 5) mYes (mOp (gEq false) (mVar 5) (mVar 0)))))) (mRet (mC (.bl false))) mSkip) b__law_right_s1
def m__law_right : FM := mFn 3 6 b__law_right
def b__law_thing_s4 : SM := (mRet (mOp gIx (mLst false (mCons (mC .non) (mCons (mOp gSub (mC (.int 0)) (mCall m__law_pick (mCons (mVar 0) (mCons (mC (.int 100)) mNil)))) mNil))) (mOp gSub (mVar 1) (mC (.int 3)))))
def b__law_thing_s3 : SM := mSeq (mIfS (mTest (mOp (gEq false) (mVar 1) (mC (.int 2)))) (mRet (mCB bTuple (mCons (mLc [2] false (mRng1 (mCall m__law_pick (mCons (mVar 0) (mCons (mC (.int 3)) mNil)))) (gNm 2) mYes (mCall m__law_pick (mCons (mVar 0) (mCons (mC (.int 9)) mNil)))) mNil))) mSkip) b__law_thing_s4
def b__law_thing_s2 : SM := mSeq (mIfS (mTest (mOp (gEq false) (mVar 1) (mC (.int 1)))) (mRet (mCall m__law_pick (mCons (mVar 0) (mCons (mOp gPow (mC (.int 10)) (mC (.int 9))) mNil)))) mSkip) b__law_thing_s3
def b__law_thing_s1 : SM := mSeq (mIfS (mTest (mOp (gEq false) (mVar 1) (mC (.int 0)))) (mRet (mCall m__law_word (mCons (mVar 0) mNil))) mSkip) b__law_thing_s2
def b__law_thing : SM := mSeq (mAsg (mCall m__law_pick (mCons (mVar 0) (mCons (mC (.int 5)) mNil))) (gNm 1)) b__law_thing_s1
def m__law_thing : FM := mFn 1 3 b__law_thing
def b__law_made_s8 : SM := (mRet (mIf (mTru (mVar 1)) (mMkK "TooMany" ["most"] (List.length [Str.ofString "most"]) [0] (mCons (mVar 2) mNil)) (mMkE "TooMany" ["most"] (mCons (mVar 2) mNil))))
def b__law_made_s7 : SM := mSeq (mIfS (mTest (mOp (gEq false) (mVar 0) (mC (.int 7)))) (mRet (mIf (mTru (mVar 1)) (mMkK "NoLetter" ["place"] (List.length [Str.ofString "place"]) [0] (mCons (mVar 2) mNil)) (mMkE "NoLetter" ["place"] (mCons (mVar 2) mNil)))) mSkip) b__law_made_s8
def b__law_made_s6 : SM := mSeq (mIfS (mTest (mOp (gEq false) (mVar 0) (mC (.int 6)))) (mRet (mIf (mTru (mVar 1)) (mMkK "NoWay" ["deed"] (List.length [Str.ofString "deed"]) [0] (mCons (mVar 2) mNil)) (mMkE "NoWay" ["deed"] (mCons (mVar 2) mNil)))) mSkip) b__law_made_s7
def b__law_made_s5 : SM := mSeq (mIfS (mTest (mOp (gEq false) (mVar 0) (mC (.int 5)))) (mRet (mMk0 "NoRow")) mSkip) b__law_made_s6
def b__law_made_s4 : SM := mSeq (mIfS (mTest (mOp (gEq false) (mVar 0) (mC (.int 4)))) (mRet (mIf (mTru (mVar 1)) (mMkK "NoName" ["name"] (List.length [Str.ofString "name"]) [0] (mCons (mVar 2) mNil)) (mMkE "NoName" ["name"] (mCons (mVar 2) mNil)))) mSkip) b__law_made_s5
def b__law_made_s3 : SM := mSeq (mIfS (mTest (mOp (gEq false) (mVar 0) (mC (.int 3)))) (mRet (mIf (mTru (mVar 1)) (mMkK "NotDealt" ["heap"] (List.length [Str.ofString "heap"]) [0] (mCons (mVar 2) mNil)) (mMkE "NotDealt" ["heap"] (mCons (mVar 2) mNil)))) mSkip) b__law_made_s4
def b__law_made_s2 : SM := mSeq (mIfS (mTest (mOp (gEq false) (mVar 0) (mC (.int 2)))) (mRet (mIf (mTru (mVar 1)) (mMkK "NoYard" ["word", "at"] (List.length [Str.ofString "at", Str.ofString "word"]) [1, 0] (mCons (mVar 3) (mCons (mVar 2) mNil))) (mMkE "NoYard" ["word", "at"] (mCons (mVar 2) (mCons (mVar 3) mNil))))) mSkip) b__law_made_s3
def b__law_made_s1 : SM := mSeq (mIfS (mTest (mOp (gEq false) (mVar 0) (mC (.int 1)))) (mRet (mIf (mTru (mVar 1)) (mMkK "NoMap" ["word", "at"] (List.length [Str.ofString "at", Str.ofString "word"]) [1, 0] (mCons (mVar 3) (mCons (mVar 2) mNil))) (mMkE "NoMap" ["word", "at"] (mCons (mVar 2) (mCons (mVar 3) mNil))))) mSkip) b__law_made_s2
def b__law_made : SM := mSeq (mIfS (mTest (mOp (gEq false) (mVar 0) (mC (.int 0)))) (mRet (mIf (mTru (mVar 1)) (mMkK "NoText" ["row"] (List.length [Str.ofString "row"]) [0] (mCons (mVar 2) mNil)) (mMkE "NoText" ["row"] (mCons (mVar 2) mNil)))) mSkip) b__law_made_s1
def m__law_made : FM := mFn 4 4 b__law_made
def b_law_0s8 : SM := (mIfS (mNot (mTru (mCall m__law_right (mCons (mVar 4) (mCons (mVar 8) (mCons (mOp gIx (mVar 7) (mC (.int 0))) mNil)))))) (mRet (mC (.bl false))) mSkip)
def b_law_0s7 : SM := mSeq (mIfS (mOr (mNot (mTru (mCall m__law_right (mCons (mVar 4) (mCons (mVar 8) (mCons (mOp gIx (mVar 7) (mC (.int 0))) mNil)))))) (mNot (mTru (mCall m__law_right (mCons (mVar 4) (mCons (mVar 9) (mCons (mOp gIx (mVar 7) (mC (.int 1))) mNil))))))) (mRet (mC (.bl false))) mSkip) b_law_0s8
def b_law_0s6 : SM := mSeq (mAsg (mCall m__law_made (mCons (mVar 4) (mCons (mNotV (mVar 6)) (mCons (mOp gIx (mVar 5) (mC (.int 2))) (mCons (mOp gIx (mVar 5) (mC (.int 3))) mNil))))) (gNm 9)) b_law_0s7
def b_law_0s5 : SM := mSeq (mAsg (mCall m__law_made (mCons (mVar 4) (mCons (mVar 6) (mCons (mOp gIx (mVar 5) (mC (.int 0))) (mCons (mOp gIx (mVar 5) (mC (.int 1))) mNil))))) (gNm 8)) b_law_0s6
def b_law_0s4 : SM := mSeq (mIfS (mTest (mOp (gIn false) (mVar 4) (mTup (mCons (mC (.int 1)) (mCons (mC (.int 2)) mNil))))) (mAsg (mLst false (mCons (mTup (mCons (mOp gIx (mVar 5) (mC (.int 0))) (mCons (mOp gIx (mVar 5) (mC (.int 1))) mNil))) (mCons (mTup (mCons (mOp gIx (mVar 5) (mC (.int 2))) (mCons (mOp gIx (mVar 5) (mC (.int 3))) mNil))) mNil))) (gNm 7)) (mIfS (mTest (mOp (gEq true) (mVar 4) (mC (.int 5)))) (mAsg (mLst false (mCons (mTup (mCons (mOp gIx (mVar 5) (mC (.int 0))) mNil)) (mCons (mTup (mCons (mOp gIx (mVar 5) (mC (.int 2))) mNil)) mNil))) (gNm 7)) mSkip)) b_law_0s5
def b_law_0s3 : SM := mSeq (mAsg (mLst false (mCons (mTup mNil) (mCons (mTup mNil) mNil))) (gNm 7)) b_law_0s4
def b_law_0s2 : SM := mSeq (mAsg (mOp (gEq false) (mCall m__law_pick (mCons (mVar 1) (mCons (mC (.int 2)) mNil))) (mC (.int 0))) (gNm 6)) b_law_0s3
def b_law_0s1 : SM := mSeq (mAsg (mLc [10] false (mRng1 (mC (.int 4))) (gNm 10) mYes (mCall m__law_thing (mCons (mVar 1) mNil))) (gNm 5)) b_law_0s2
def b_law_0 : SM := mSeq (mAsg (mOp gMod (mOp (gAdd false) (mVar 2) (mVar 3)) (mC (.int 9))) (gNm 4)) b_law_0s1
def b_law_s3 : SM := (mRet (mC (.bl true)))
def b_law_s2 : SM := mSeq (mFor (mRng1 (mC (.int 9))) (gNm 3) b_law_0) b_law_s3
def b_law_s1 : SM := mSeq (mAsg (mCall m__law_pick (mCons (mVar 1) (mCons (mC (.int 9)) mNil))) (gNm 2)) b_law_s2
def b_law : SM := mSeq (mAsg (mCall m__law_flow (mCons (mVar 0) mNil)) (gNm 1)) b_law_s1
def m_law : FM := mFn 1 11 b_law
/-! ### the walks -/
structure Tx (K : PySem.W.Frag) (mg : Str → Option Value) : Prop where
  b_IndexError : mg "IndexError" = none
  b_KeyError : mg "KeyError" = none
  b_LookupError : mg "LookupError" = none
  b_OverflowError : mg "OverflowError" = none
  b_ValueError : mg "ValueError" = none
  b_isinstance : mg "isinstance" = none
  b_len : mg "len" = none
  b_list : mg "list" = none
  b_range : mg "range" = none
  b_repr : mg "repr" = none
  b_tuple : mg "tuple" = none
  xin : ∀ x, [("NoLetter" : Str), ("NoMap" : Str), ("NoName" : Str), ("NoRow" : Str), ("NoText" : Str), ("NoWay" : Str), ("NoYard" : Str), ("NotDealt" : Str), ("TooMany" : Str)].contains x = true → XIn K mg x
  c_LoomError : ∃ D, mg "LoomError" = some (.ref D)
  c_NoLetter : ∃ D, mg "NoLetter" = some (.ref D)
  c_NoMap : ∃ D, mg "NoMap" = some (.ref D)
  c_NoName : ∃ D, mg "NoName" = some (.ref D)
  c_NoRow : ∃ D, mg "NoRow" = some (.ref D)
  c_NoText : ∃ D, mg "NoText" = some (.ref D)
  c_NoWay : ∃ D, mg "NoWay" = some (.ref D)
  c_NoYard : ∃ D, mg "NoYard" = some (.ref D)
  c_NotDealt : ∃ D, mg "NotDealt" = some (.ref D)
  c_TooMany : ∃ D, mg "TooMany" = some (.ref D)
  is_NoLetter_IndexError : IsK K mg "NoLetter" "IndexError" false
  is_NoLetter_KeyError : IsK K mg "NoLetter" "KeyError" false
  is_NoLetter_LookupError : IsK K mg "NoLetter" "LookupError" true
  is_NoLetter_LoomError : IsK K mg "NoLetter" "LoomError" false
  is_NoLetter_NoLetter : IsK K mg "NoLetter" "NoLetter" true
  is_NoLetter_NoMap : IsK K mg "NoLetter" "NoMap" false
  is_NoLetter_NoName : IsK K mg "NoLetter" "NoName" false
  is_NoLetter_NoRow : IsK K mg "NoLetter" "NoRow" false
  is_NoLetter_NoText : IsK K mg "NoLetter" "NoText" false
  is_NoLetter_NoWay : IsK K mg "NoLetter" "NoWay" false
  is_NoLetter_NoYard : IsK K mg "NoLetter" "NoYard" false
  is_NoLetter_NotDealt : IsK K mg "NoLetter" "NotDealt" false
  is_NoLetter_OverflowError : IsK K mg "NoLetter" "OverflowError" false
  is_NoLetter_TooMany : IsK K mg "NoLetter" "TooMany" false
  is_NoLetter_ValueError : IsK K mg "NoLetter" "ValueError" false
  is_NoMap_IndexError : IsK K mg "NoMap" "IndexError" false
  is_NoMap_KeyError : IsK K mg "NoMap" "KeyError" false
  is_NoMap_LookupError : IsK K mg "NoMap" "LookupError" false
  is_NoMap_LoomError : IsK K mg "NoMap" "LoomError" true
  is_NoMap_NoLetter : IsK K mg "NoMap" "NoLetter" false
  is_NoMap_NoMap : IsK K mg "NoMap" "NoMap" true
  is_NoMap_NoName : IsK K mg "NoMap" "NoName" false
  is_NoMap_NoRow : IsK K mg "NoMap" "NoRow" false
  is_NoMap_NoText : IsK K mg "NoMap" "NoText" false
  is_NoMap_NoWay : IsK K mg "NoMap" "NoWay" false
  is_NoMap_NoYard : IsK K mg "NoMap" "NoYard" false
  is_NoMap_NotDealt : IsK K mg "NoMap" "NotDealt" false
  is_NoMap_OverflowError : IsK K mg "NoMap" "OverflowError" false
  is_NoMap_TooMany : IsK K mg "NoMap" "TooMany" false
  is_NoMap_ValueError : IsK K mg "NoMap" "ValueError" true
  is_NoName_IndexError : IsK K mg "NoName" "IndexError" false
  is_NoName_KeyError : IsK K mg "NoName" "KeyError" false
  is_NoName_LookupError : IsK K mg "NoName" "LookupError" false
  is_NoName_LoomError : IsK K mg "NoName" "LoomError" true
  is_NoName_NoLetter : IsK K mg "NoName" "NoLetter" false
  is_NoName_NoMap : IsK K mg "NoName" "NoMap" false
  is_NoName_NoName : IsK K mg "NoName" "NoName" true
  is_NoName_NoRow : IsK K mg "NoName" "NoRow" false
  is_NoName_NoText : IsK K mg "NoName" "NoText" false
  is_NoName_NoWay : IsK K mg "NoName" "NoWay" false
  is_NoName_NoYard : IsK K mg "NoName" "NoYard" false
  is_NoName_NotDealt : IsK K mg "NoName" "NotDealt" false
  is_NoName_OverflowError : IsK K mg "NoName" "OverflowError" false
  is_NoName_TooMany : IsK K mg "NoName" "TooMany" false
  is_NoName_ValueError : IsK K mg "NoName" "ValueError" true
  is_NoRow_IndexError : IsK K mg "NoRow" "IndexError" false
  is_NoRow_KeyError : IsK K mg "NoRow" "KeyError" false
  is_NoRow_LookupError : IsK K mg "NoRow" "LookupError" false
  is_NoRow_LoomError : IsK K mg "NoRow" "LoomError" true
  is_NoRow_NoLetter : IsK K mg "NoRow" "NoLetter" false
  is_NoRow_NoMap : IsK K mg "NoRow" "NoMap" false
  is_NoRow_NoName : IsK K mg "NoRow" "NoName" false
  is_NoRow_NoRow : IsK K mg "NoRow" "NoRow" true
  is_NoRow_NoText : IsK K mg "NoRow" "NoText" false
  is_NoRow_NoWay : IsK K mg "NoRow" "NoWay" false
  is_NoRow_NoYard : IsK K mg "NoRow" "NoYard" false
  is_NoRow_NotDealt : IsK K mg "NoRow" "NotDealt" false
  is_NoRow_OverflowError : IsK K mg "NoRow" "OverflowError" false
  is_NoRow_TooMany : IsK K mg "NoRow" "TooMany" false
  is_NoRow_ValueError : IsK K mg "NoRow" "ValueError" true
  is_NoText_IndexError : IsK K mg "NoText" "IndexError" false
  is_NoText_KeyError : IsK K mg "NoText" "KeyError" false
  is_NoText_LookupError : IsK K mg "NoText" "LookupError" false
  is_NoText_LoomError : IsK K mg "NoText" "LoomError" true
  is_NoText_NoLetter : IsK K mg "NoText" "NoLetter" false
  is_NoText_NoMap : IsK K mg "NoText" "NoMap" false
  is_NoText_NoName : IsK K mg "NoText" "NoName" false
  is_NoText_NoRow : IsK K mg "NoText" "NoRow" false
  is_NoText_NoText : IsK K mg "NoText" "NoText" true
  is_NoText_NoWay : IsK K mg "NoText" "NoWay" false
  is_NoText_NoYard : IsK K mg "NoText" "NoYard" false
  is_NoText_NotDealt : IsK K mg "NoText" "NotDealt" false
  is_NoText_OverflowError : IsK K mg "NoText" "OverflowError" false
  is_NoText_TooMany : IsK K mg "NoText" "TooMany" false
  is_NoText_ValueError : IsK K mg "NoText" "ValueError" true
  is_NoWay_IndexError : IsK K mg "NoWay" "IndexError" false
  is_NoWay_KeyError : IsK K mg "NoWay" "KeyError" false
  is_NoWay_LookupError : IsK K mg "NoWay" "LookupError" true
  is_NoWay_LoomError : IsK K mg "NoWay" "LoomError" false
  is_NoWay_NoLetter : IsK K mg "NoWay" "NoLetter" false
  is_NoWay_NoMap : IsK K mg "NoWay" "NoMap" false
  is_NoWay_NoName : IsK K mg "NoWay" "NoName" false
  is_NoWay_NoRow : IsK K mg "NoWay" "NoRow" false
  is_NoWay_NoText : IsK K mg "NoWay" "NoText" false
  is_NoWay_NoWay : IsK K mg "NoWay" "NoWay" true
  is_NoWay_NoYard : IsK K mg "NoWay" "NoYard" false
  is_NoWay_NotDealt : IsK K mg "NoWay" "NotDealt" false
  is_NoWay_OverflowError : IsK K mg "NoWay" "OverflowError" false
  is_NoWay_TooMany : IsK K mg "NoWay" "TooMany" false
  is_NoWay_ValueError : IsK K mg "NoWay" "ValueError" false
  is_NoYard_IndexError : IsK K mg "NoYard" "IndexError" false
  is_NoYard_KeyError : IsK K mg "NoYard" "KeyError" false
  is_NoYard_LookupError : IsK K mg "NoYard" "LookupError" false
  is_NoYard_LoomError : IsK K mg "NoYard" "LoomError" true
  is_NoYard_NoLetter : IsK K mg "NoYard" "NoLetter" false
  is_NoYard_NoMap : IsK K mg "NoYard" "NoMap" false
  is_NoYard_NoName : IsK K mg "NoYard" "NoName" false
  is_NoYard_NoRow : IsK K mg "NoYard" "NoRow" false
  is_NoYard_NoText : IsK K mg "NoYard" "NoText" false
  is_NoYard_NoWay : IsK K mg "NoYard" "NoWay" false
  is_NoYard_NoYard : IsK K mg "NoYard" "NoYard" true
  is_NoYard_NotDealt : IsK K mg "NoYard" "NotDealt" false
  is_NoYard_OverflowError : IsK K mg "NoYard" "OverflowError" false
  is_NoYard_TooMany : IsK K mg "NoYard" "TooMany" false
  is_NoYard_ValueError : IsK K mg "NoYard" "ValueError" true
  is_NotDealt_IndexError : IsK K mg "NotDealt" "IndexError" false
  is_NotDealt_KeyError : IsK K mg "NotDealt" "KeyError" false
  is_NotDealt_LookupError : IsK K mg "NotDealt" "LookupError" false
  is_NotDealt_LoomError : IsK K mg "NotDealt" "LoomError" true
  is_NotDealt_NoLetter : IsK K mg "NotDealt" "NoLetter" false
  is_NotDealt_NoMap : IsK K mg "NotDealt" "NoMap" false
  is_NotDealt_NoName : IsK K mg "NotDealt" "NoName" false
  is_NotDealt_NoRow : IsK K mg "NotDealt" "NoRow" false
  is_NotDealt_NoText : IsK K mg "NotDealt" "NoText" false
  is_NotDealt_NoWay : IsK K mg "NotDealt" "NoWay" false
  is_NotDealt_NoYard : IsK K mg "NotDealt" "NoYard" false
  is_NotDealt_NotDealt : IsK K mg "NotDealt" "NotDealt" true
  is_NotDealt_OverflowError : IsK K mg "NotDealt" "OverflowError" false
  is_NotDealt_TooMany : IsK K mg "NotDealt" "TooMany" false
  is_NotDealt_ValueError : IsK K mg "NotDealt" "ValueError" true
  is_TooMany_IndexError : IsK K mg "TooMany" "IndexError" false
  is_TooMany_KeyError : IsK K mg "TooMany" "KeyError" false
  is_TooMany_LookupError : IsK K mg "TooMany" "LookupError" false
  is_TooMany_LoomError : IsK K mg "TooMany" "LoomError" false
  is_TooMany_NoLetter : IsK K mg "TooMany" "NoLetter" false
  is_TooMany_NoMap : IsK K mg "TooMany" "NoMap" false
  is_TooMany_NoName : IsK K mg "TooMany" "NoName" false
  is_TooMany_NoRow : IsK K mg "TooMany" "NoRow" false
  is_TooMany_NoText : IsK K mg "TooMany" "NoText" false
  is_TooMany_NoWay : IsK K mg "TooMany" "NoWay" false
  is_TooMany_NoYard : IsK K mg "TooMany" "NoYard" false
  is_TooMany_NotDealt : IsK K mg "TooMany" "NotDealt" false
  is_TooMany_OverflowError : IsK K mg "TooMany" "OverflowError" true
  is_TooMany_TooMany : IsK K mg "TooMany" "TooMany" true
  is_TooMany_ValueError : IsK K mg "TooMany" "ValueError" false
  fld_at : ∀ x, [("NoMap" : Str), ("NoYard" : Str)].contains x = true → XFld K mg x "at"
  fld_deed : ∀ x, [("NoWay" : Str)].contains x = true → XFld K mg x "deed"
  fld_heap : ∀ x, [("NotDealt" : Str)].contains x = true → XFld K mg x "heap"
  fld_most : ∀ x, [("TooMany" : Str)].contains x = true → XFld K mg x "most"
  fld_name : ∀ x, [("NoName" : Str)].contains x = true → XFld K mg x "name"
  fld_place : ∀ x, [("NoLetter" : Str)].contains x = true → XFld K mg x "place"
  fld_row : ∀ x, [("NoText" : Str)].contains x = true → XFld K mg x "row"
  fld_word : ∀ x, [("NoMap" : Str), ("NoYard" : Str)].contains x = true → XFld K mg x "word"
section
variable {P : Program} {w : World} {K : PySem.W.Frag} {mg : Str → Option Value} {base : Heap}
theorem ok__law_flow (T : Tx K mg) {f : Addr} {fd : FuncData} (F : Fun K "_law_flow" "_law_flow" st__law_flow f fd) : FnOk P w K mg base CX0 1 f fd ["_law_script"] (sp0 K mg m__law_flow) :=
  fn_ok0 F sc__law_flow fun cdv A outer s H E hr =>
    (mss_one (ms_ret (me_lst true (ma_cons (me_callTy (cm_list false) T.b_list (by rfl) boot_list (ma_cons (mv 0) ma_nil)) (ma_cons me_int (ma_cons me_int (ma_cons me_int (ma_cons me_int ma_nil))))))))
theorem ok__law_pick (T : Tx K mg) {f : Addr} {fd : FuncData} (F : Fun K "_law_pick" "_law_pick" st__law_pick f fd) : FnOk P w K mg base CX0 1 f fd ["_law_flow_here", "_law_many"] (sp0 K mg m__law_pick) :=
  fn_ok0 F sc__law_pick fun cdv A outer s H E hr =>
    (mss_cons (ms_if (mw_and (mt_cmp (om_eq hr.units) (me_ix im_ix (mv 0) me_int (fun _ _ => rfl)) me_int (nomark _)) (mw_and1 (mt_cmp om_lt (me_ix im_ix (mv 0) me_int (fun _ _ => rfl)) (me_callB cm_len T.b_len (by rfl) PySem.boot_len (ma_cons (me_ix im_ix (mv 0) me_int (fun _ _ => rfl)) ma_nil)) (nomark _)))).pt (mss_cons (ms_set sc__law_pick.nd rfl (by first | exact .inl rfl | exact .inr rfl) (me_ix im_ix (me_ix im_ix (mv 0) me_int (fun _ _ => rfl)) (me_ix im_ix (mv 0) me_int (fun _ _ => rfl)) (fun _ _ => rfl)))
    (mss_cons (ms_asg (vs := []) (me_op (om_add false) (me_ix im_ix (mv 0) me_int (fun _ _ => rfl)) me_int) (mg_sub (mv 0) me_int))
    (mss_one (ms_if (mt_cmp om_ge (mv 2) (me_op om_pow me_int me_int) (nomark _)) (mss_one (ms_asg (vs := []) (mv 2) (mg_sub (mv 0) me_int))) (mss_one (ms_asg (vs := []) (me_op om_mod (me_op (om_add false) (me_op (om_add false) (me_op om_mul (me_ix im_ix (mv 0) me_int (fun _ _ => rfl)) me_int) (me_op om_mod (mv 2) me_int)) me_int) me_int) (mg_sub (mv 0) me_int))))))) mss_nil)
    (mss_cons (ms_if (mt_cmp om_gt (me_ix im_ix (mv 0) me_int (fun _ _ => rfl)) me_int (nomark _)) (mss_cons (ms_set sc__law_pick.nd rfl (by first | exact .inl rfl | exact .inr rfl) (me_op om_mod (me_ix im_ix (mv 0) me_int (fun _ _ => rfl)) (mv 1)))
    (mss_cons (ms_asg (vs := []) (me_op om_fdiv (me_ix im_ix (mv 0) me_int (fun _ _ => rfl)) (mv 1)) (mg_sub (mv 0) me_int))
    (mss_one (ms_ret (mv 3))))) mss_nil)
    (mss_cons (ms_asg (vs := []) (me_op (om_add false) (me_ix im_ix (mv 0) me_int (fun _ _ => rfl)) me_int) (mg_sub (mv 0) me_int))
    (mss_cons (ms_asg (vs := []) (me_op om_mod (me_op (om_add false) (me_op (om_add false) (me_op om_mul (me_ix im_ix (mv 0) me_int (fun _ _ => rfl)) me_int) me_int) (me_ix im_ix (mv 0) me_int (fun _ _ => rfl))) me_int) (mg_sub (mv 0) me_int))
    (mss_one (ms_ret (me_op om_mod (me_op om_fdiv (me_op om_mod (me_op om_mul (me_op (om_add false) (me_op om_mod (me_ix im_ix (mv 0) me_int (fun _ _ => rfl)) me_int) me_int) (me_op (om_add false) (me_op om_fdiv (me_ix im_ix (mv 0) me_int (fun _ _ => rfl)) me_int) me_int)) me_int) me_int) (mv 1))))))))
theorem ok__law_word (T : Tx K mg) (h__law_pick : FnD P w K mg base 1 "_law_pick" ["_law_flow_here", "_law_many"] m__law_pick) {f : Addr} {fd : FuncData} (F : Fun K "_law_word" "_law_word" st__law_word f fd) : FnOk P w K mg base CX0 2 f fd ["_law_flow_here"] (sp0 K mg m__law_word) :=
  fn_ok0 F sc__law_word fun cdv A outer s H E hr =>
    (mss_cons (ms_set sc__law_word.nd rfl (by first | exact .inl rfl | exact .inr rfl) me_str)
    (mss_cons (ms_set sc__law_word.nd rfl (by first | exact .inl rfl | exact .inr rfl) (me_bm PySem.F.plainAttrs_str PySem.F.slot_str_join PySem.F.type_str_join mm_join me_str (ma_cons (me_lc false [("_law_k", 3)] rfl sc__law_word.nd (mi_rng1 T.b_range (by rfl) (me_op (om_add false) me_int (me_call h__law_pick (hr.mono (by decide)) (by rfl) (ma_cons (mv 0) (ma_cons me_int ma_nil))))) (blkOk_by (by kernel_rfl)) (fun _ _ _ _ _ => (mg_name (by decide) sc__law_word.nd rfl (by first | exact .inl rfl | exact .inr rfl))) (fun _ _ _ _ _ => mts_nil) (fun _ _ _ _ _ => (me_ix im_ix (mv 1) (me_call h__law_pick (hr.mono (by decide)) (by rfl) (ma_cons (mv 0) (ma_cons me_int ma_nil))) (fun _ _ => rfl)))) ma_nil)))
    (mss_cons (ms_if (mt_cmp (om_in (hu1 hr)) (mv 2) (me_tup (ma_cons me_str (ma_cons me_str (ma_cons me_str (ma_cons me_str (ma_cons me_str ma_nil)))))) rfl) (mss_one (ms_set sc__law_word.nd rfl (by first | exact .inl rfl | exact .inr rfl) (me_op (om_add false) (me_sl (sm_sl false) (mv 2) mo_none (mo_some (me_un um_neg me_int))) me_str))) mss_nil)
    (mss_one (ms_ret (mv 2))))))
theorem ok__law_thing (T : Tx K mg) (h__law_pick : FnD P w K mg base 1 "_law_pick" ["_law_flow_here", "_law_many"] m__law_pick) (h__law_word : FnD P w K mg base 2 "_law_word" ["_law_flow_here"] m__law_word) {f : Addr} {fd : FuncData} (F : Fun K "_law_thing" "_law_thing" st__law_thing f fd) : FnOk P w K mg base CX0 3 f fd ["_law_flow_here"] (sp0 K mg m__law_thing) :=
  fn_ok0 F sc__law_thing fun cdv A outer s H E hr =>
    (mss_cons (ms_set sc__law_thing.nd rfl (by first | exact .inl rfl | exact .inr rfl) (me_call h__law_pick (hr.mono (by decide)) (by rfl) (ma_cons (mv 0) (ma_cons me_int ma_nil))))
    (mss_cons (ms_if (mt_cmp (om_eq hr.units) (mv 1) me_int (nomark _)) (mss_one (ms_ret (me_call h__law_word (hr.mono (by decide)) (by rfl) (ma_cons (mv 0) ma_nil)))) mss_nil)
    (mss_cons (ms_if (mt_cmp (om_eq hr.units) (mv 1) me_int (nomark _)) (mss_one (ms_ret (me_call h__law_pick (hr.mono (by decide)) (by rfl) (ma_cons (mv 0) (ma_cons (me_op om_pow me_int me_int) ma_nil))))) mss_nil)
    (mss_cons (ms_if (mt_cmp (om_eq hr.units) (mv 1) me_int (nomark _)) (mss_one (ms_ret (me_callTy cm_tuple T.b_tuple (by rfl) boot_tuple (ma_cons (me_lc false [("_law_k", 2)] rfl sc__law_thing.nd (mi_rng1 T.b_range (by rfl) (me_call h__law_pick (hr.mono (by decide)) (by rfl) (ma_cons (mv 0) (ma_cons me_int ma_nil)))) (blkOk_by (by kernel_rfl)) (fun _ _ _ _ _ => (mg_name (by decide) sc__law_thing.nd rfl (by first | exact .inl rfl | exact .inr rfl))) (fun _ _ _ _ _ => mts_nil) (fun _ _ _ _ _ => (me_call h__law_pick (hr.mono (by decide)) (by rfl) (ma_cons (mv 0) (ma_cons me_int ma_nil))))) ma_nil)))) mss_nil)
    (mss_one (ms_ret (me_ix im_ix (me_lst false (ma_cons me_non (ma_cons (me_op om_sub me_int (me_call h__law_pick (hr.mono (by decide)) (by rfl) (ma_cons (mv 0) (ma_cons me_int ma_nil)))) ma_nil))) (me_op om_sub (mv 1) me_int) (fun _ _ => rfl))))))))
theorem ok__law_made (T : Tx K mg) (x_NoLetter : XMkR P w K mg base "NoLetter" "place") (x_NoMap : XMk P w K mg base "NoMap" ["word", "at"]) (x_NoName : XMk P w K mg base "NoName" ["name"]) (x_NoText : XMk P w K mg base "NoText" ["row"]) (x_NoWay : XMkR P w K mg base "NoWay" "deed") (x_NoYard : XMk P w K mg base "NoYard" ["word", "at"]) (x_NotDealt : XMk P w K mg base "NotDealt" ["heap"]) (x_TooMany : XMkR P w K mg base "TooMany" "most") (y_NoRow : XM0 K mg "NoRow") (w_NoLetter_place : XKw P w K mg base "NoLetter" ["place"] ["place"] [0]) (w_NoMap_at_word : XKw P w K mg base "NoMap" ["word", "at"] ["at", "word"] [1, 0]) (w_NoName_name : XKw P w K mg base "NoName" ["name"] ["name"] [0]) (w_NoText_row : XKw P w K mg base "NoText" ["row"] ["row"] [0]) (w_NoWay_deed : XKw P w K mg base "NoWay" ["deed"] ["deed"] [0]) (w_NoYard_at_word : XKw P w K mg base "NoYard" ["word", "at"] ["at", "word"] [1, 0]) (w_NotDealt_heap : XKw P w K mg base "NotDealt" ["heap"] ["heap"] [0]) (w_TooMany_most : XKw P w K mg base "TooMany" ["most"] ["most"] [0]) {f : Addr} {fd : FuncData} (F : Fun K "_law_made" "_law_made" st__law_made f fd) : FnOk P w K mg base CX0 3 f fd ["_law_which", "_law_by_name", "_law_one", "_law_other"] (sp0 K mg m__law_made) :=
  fn_ok0 F sc__law_made fun cdv A outer s H E hr =>
    (mss_cons (ms_if (mt_cmp (om_eq hr.units) (mv 0) me_int (nomark _)) (mss_one (ms_ret (me_if (mt_tru (mv 1)) (me_mkK w_NoText_row rfl (hr.mono (by decide)) (by rfl) (mk_cons (mv 2) mk_nil)) (me_mkE x_NoText rfl (hr.mono (by decide)) (by rfl) (by decide) (ma_cons (mv 2) ma_nil))))) mss_nil)
    (mss_cons (ms_if (mt_cmp (om_eq hr.units) (mv 0) me_int (nomark _)) (mss_one (ms_ret (me_if (mt_tru (mv 1)) (me_mkK w_NoMap_at_word rfl (hr.mono (by decide)) (by rfl) (mk_cons (mv 3) (mk_cons (mv 2) mk_nil))) (me_mkE x_NoMap rfl (hr.mono (by decide)) (by rfl) (by decide) (ma_cons (mv 2) (ma_cons (mv 3) ma_nil)))))) mss_nil)
    (mss_cons (ms_if (mt_cmp (om_eq hr.units) (mv 0) me_int (nomark _)) (mss_one (ms_ret (me_if (mt_tru (mv 1)) (me_mkK w_NoYard_at_word rfl (hr.mono (by decide)) (by rfl) (mk_cons (mv 3) (mk_cons (mv 2) mk_nil))) (me_mkE x_NoYard rfl (hr.mono (by decide)) (by rfl) (by decide) (ma_cons (mv 2) (ma_cons (mv 3) ma_nil)))))) mss_nil)
    (mss_cons (ms_if (mt_cmp (om_eq hr.units) (mv 0) me_int (nomark _)) (mss_one (ms_ret (me_if (mt_tru (mv 1)) (me_mkK w_NotDealt_heap rfl (hr.mono (by decide)) (by rfl) (mk_cons (mv 2) mk_nil)) (me_mkE x_NotDealt rfl (hr.mono (by decide)) (by rfl) (by decide) (ma_cons (mv 2) ma_nil))))) mss_nil)
    (mss_cons (ms_if (mt_cmp (om_eq hr.units) (mv 0) me_int (nomark _)) (mss_one (ms_ret (me_if (mt_tru (mv 1)) (me_mkK w_NoName_name rfl (hr.mono (by decide)) (by rfl) (mk_cons (mv 2) mk_nil)) (me_mkE x_NoName rfl (hr.mono (by decide)) (by rfl) (by decide) (ma_cons (mv 2) ma_nil))))) mss_nil)
    (mss_cons (ms_if (mt_cmp (om_eq hr.units) (mv 0) me_int (nomark _)) (mss_one (ms_ret (me_mk0 y_NoRow rfl (by rfl)))) mss_nil)
    (mss_cons (ms_if (mt_cmp (om_eq hr.units) (mv 0) me_int (nomark _)) (mss_one (ms_ret (me_if (mt_tru (mv 1)) (me_mkK w_NoWay_deed rfl (hr.mono (by decide)) (by rfl) (mk_cons (mv 2) mk_nil)) (me_mkER x_NoWay rfl (hr.mono (by decide)) (by rfl) (ma_cons (mv 2) ma_nil))))) mss_nil)
    (mss_cons (ms_if (mt_cmp (om_eq hr.units) (mv 0) me_int (nomark _)) (mss_one (ms_ret (me_if (mt_tru (mv 1)) (me_mkK w_NoLetter_place rfl (hr.mono (by decide)) (by rfl) (mk_cons (mv 2) mk_nil)) (me_mkER x_NoLetter rfl (hr.mono (by decide)) (by rfl) (ma_cons (mv 2) ma_nil))))) mss_nil)
    (mss_one (ms_ret (me_if (mt_tru (mv 1)) (me_mkK w_TooMany_most rfl (hr.mono (by decide)) (by rfl) (mk_cons (mv 2) mk_nil)) (me_mkER x_TooMany rfl (hr.mono (by decide)) (by rfl) (ma_cons (mv 2) ma_nil)))))))))))))
theorem ok__law_fields (T : Tx K mg) {f : Addr} {fd : FuncData} (F : Fun K "_law_fields" "_law_fields" st__law_fields f fd) : FnOk P w K mg base CX0 1 f fd ["_law_which", "_law_e"] (sp0 K mg m__law_fields) :=
  fn_ok0 F sc__law_fields fun cdv A outer s H E hr =>
    (mss_cons (ms_if (mt_cmp (om_eq hr.units) (mv 0) me_int (nomark _)) (mss_one (ms_ret (me_tup (ma_cons (me_xf T.fld_row (mv 1)) ma_nil)))) mss_nil)
    (mss_cons (ms_if (mw_or (mt_cmp (om_eq hr.units) (mv 0) me_int (nomark _)) (mw_or1 (mt_cmp (om_eq hr.units) (mv 0) me_int (nomark _)))).pt (mss_one (ms_ret (me_tup (ma_cons (me_xf T.fld_word (mv 1)) (ma_cons (me_xf T.fld_at (mv 1)) ma_nil))))) mss_nil)
    (mss_cons (ms_if (mt_cmp (om_eq hr.units) (mv 0) me_int (nomark _)) (mss_one (ms_ret (me_tup (ma_cons (me_xf T.fld_heap (mv 1)) ma_nil)))) mss_nil)
    (mss_cons (ms_if (mt_cmp (om_eq hr.units) (mv 0) me_int (nomark _)) (mss_one (ms_ret (me_tup (ma_cons (me_xf T.fld_name (mv 1)) ma_nil)))) mss_nil)
    (mss_cons (ms_if (mt_cmp (om_eq hr.units) (mv 0) me_int (nomark _)) (mss_one (ms_ret (me_tup ma_nil))) mss_nil)
    (mss_cons (ms_if (mt_cmp (om_eq hr.units) (mv 0) me_int (nomark _)) (mss_one (ms_ret (me_tup (ma_cons (me_xf T.fld_deed (mv 1)) ma_nil)))) mss_nil)
    (mss_cons (ms_if (mt_cmp (om_eq hr.units) (mv 0) me_int (nomark _)) (mss_one (ms_ret (me_tup (ma_cons (me_xf T.fld_place (mv 1)) ma_nil)))) mss_nil)
    (mss_one (ms_ret (me_tup (ma_cons (me_xf T.fld_most (mv 1)) ma_nil)))))))))))
theorem ok__law_kinds (T : Tx K mg) {f : Addr} {fd : FuncData} (F : Fun K "_law_kinds" "_law_kinds" st__law_kinds f fd) : FnOk P w K mg base CX0 1 f fd ["_law_e"] (sp0 K mg m__law_kinds) :=
  fn_ok0 F sc__law_kinds fun cdv A outer s H E hr =>
    (mss_cons (ms_set sc__law_kinds.nd rfl (by first | exact .inl rfl | exact .inr rfl) (me_lst false (ma_cons (me_isE (tb := [("NoLetter", false), ("NoMap", false), ("NoName", false), ("NoRow", false), ("NoText", true), ("NoWay", false), ("NoYard", false), ("NotDealt", false), ("TooMany", false)]) T.b_isinstance (by rfl) (clsE_own (by rfl) (T.c_NoText).choose_spec) (fun x h => T.xin x h) (tblI_cons T.is_NoLetter_NoText (tblI_cons T.is_NoMap_NoText (tblI_cons T.is_NoName_NoText (tblI_cons T.is_NoRow_NoText (tblI_cons T.is_NoText_NoText (tblI_cons T.is_NoWay_NoText (tblI_cons T.is_NoYard_NoText (tblI_cons T.is_NotDealt_NoText (tblI_cons T.is_TooMany_NoText tblI_nil))))))))) (mv 0)) (ma_cons (me_isE (tb := [("NoLetter", false), ("NoMap", true), ("NoName", false), ("NoRow", false), ("NoText", false), ("NoWay", false), ("NoYard", false), ("NotDealt", false), ("TooMany", false)]) T.b_isinstance (by rfl) (clsE_own (by rfl) (T.c_NoMap).choose_spec) (fun x h => T.xin x h) (tblI_cons T.is_NoLetter_NoMap (tblI_cons T.is_NoMap_NoMap (tblI_cons T.is_NoName_NoMap (tblI_cons T.is_NoRow_NoMap (tblI_cons T.is_NoText_NoMap (tblI_cons T.is_NoWay_NoMap (tblI_cons T.is_NoYard_NoMap (tblI_cons T.is_NotDealt_NoMap (tblI_cons T.is_TooMany_NoMap tblI_nil))))))))) (mv 0)) (ma_cons (me_isE (tb := [("NoLetter", false), ("NoMap", false), ("NoName", false), ("NoRow", false), ("NoText", false), ("NoWay", false), ("NoYard", true), ("NotDealt", false), ("TooMany", false)]) T.b_isinstance (by rfl) (clsE_own (by rfl) (T.c_NoYard).choose_spec) (fun x h => T.xin x h) (tblI_cons T.is_NoLetter_NoYard (tblI_cons T.is_NoMap_NoYard (tblI_cons T.is_NoName_NoYard (tblI_cons T.is_NoRow_NoYard (tblI_cons T.is_NoText_NoYard (tblI_cons T.is_NoWay_NoYard (tblI_cons T.is_NoYard_NoYard (tblI_cons T.is_NotDealt_NoYard (tblI_cons T.is_TooMany_NoYard tblI_nil))))))))) (mv 0)) (ma_cons (me_isE (tb := [("NoLetter", false), ("NoMap", false), ("NoName", false), ("NoRow", false), ("NoText", false), ("NoWay", false), ("NoYard", false), ("NotDealt", true), ("TooMany", false)]) T.b_isinstance (by rfl) (clsE_own (by rfl) (T.c_NotDealt).choose_spec) (fun x h => T.xin x h) (tblI_cons T.is_NoLetter_NotDealt (tblI_cons T.is_NoMap_NotDealt (tblI_cons T.is_NoName_NotDealt (tblI_cons T.is_NoRow_NotDealt (tblI_cons T.is_NoText_NotDealt (tblI_cons T.is_NoWay_NotDealt (tblI_cons T.is_NoYard_NotDealt (tblI_cons T.is_NotDealt_NotDealt (tblI_cons T.is_TooMany_NotDealt tblI_nil))))))))) (mv 0)) ma_nil))))))
    (mss_cons (ms_set sc__law_kinds.nd rfl (by first | exact .inl rfl | exact .inr rfl) (me_op (om_add false) (mv 1) (me_lst false (ma_cons (me_isE (tb := [("NoLetter", false), ("NoMap", false), ("NoName", true), ("NoRow", false), ("NoText", false), ("NoWay", false), ("NoYard", false), ("NotDealt", false), ("TooMany", false)]) T.b_isinstance (by rfl) (clsE_own (by rfl) (T.c_NoName).choose_spec) (fun x h => T.xin x h) (tblI_cons T.is_NoLetter_NoName (tblI_cons T.is_NoMap_NoName (tblI_cons T.is_NoName_NoName (tblI_cons T.is_NoRow_NoName (tblI_cons T.is_NoText_NoName (tblI_cons T.is_NoWay_NoName (tblI_cons T.is_NoYard_NoName (tblI_cons T.is_NotDealt_NoName (tblI_cons T.is_TooMany_NoName tblI_nil))))))))) (mv 0)) (ma_cons (me_isE (tb := [("NoLetter", false), ("NoMap", false), ("NoName", false), ("NoRow", true), ("NoText", false), ("NoWay", false), ("NoYard", false), ("NotDealt", false), ("TooMany", false)]) T.b_isinstance (by rfl) (clsE_own (by rfl) (T.c_NoRow).choose_spec) (fun x h => T.xin x h) (tblI_cons T.is_NoLetter_NoRow (tblI_cons T.is_NoMap_NoRow (tblI_cons T.is_NoName_NoRow (tblI_cons T.is_NoRow_NoRow (tblI_cons T.is_NoText_NoRow (tblI_cons T.is_NoWay_NoRow (tblI_cons T.is_NoYard_NoRow (tblI_cons T.is_NotDealt_NoRow (tblI_cons T.is_TooMany_NoRow tblI_nil))))))))) (mv 0)) ma_nil)))))
    (mss_one (ms_ret (me_op (om_add false) (mv 1) (me_lst false (ma_cons (me_isE (tb := [("NoLetter", false), ("NoMap", false), ("NoName", false), ("NoRow", false), ("NoText", false), ("NoWay", true), ("NoYard", false), ("NotDealt", false), ("TooMany", false)]) T.b_isinstance (by rfl) (clsE_own (by rfl) (T.c_NoWay).choose_spec) (fun x h => T.xin x h) (tblI_cons T.is_NoLetter_NoWay (tblI_cons T.is_NoMap_NoWay (tblI_cons T.is_NoName_NoWay (tblI_cons T.is_NoRow_NoWay (tblI_cons T.is_NoText_NoWay (tblI_cons T.is_NoWay_NoWay (tblI_cons T.is_NoYard_NoWay (tblI_cons T.is_NotDealt_NoWay (tblI_cons T.is_TooMany_NoWay tblI_nil))))))))) (mv 0)) (ma_cons (me_isE (tb := [("NoLetter", true), ("NoMap", false), ("NoName", false), ("NoRow", false), ("NoText", false), ("NoWay", false), ("NoYard", false), ("NotDealt", false), ("TooMany", false)]) T.b_isinstance (by rfl) (clsE_own (by rfl) (T.c_NoLetter).choose_spec) (fun x h => T.xin x h) (tblI_cons T.is_NoLetter_NoLetter (tblI_cons T.is_NoMap_NoLetter (tblI_cons T.is_NoName_NoLetter (tblI_cons T.is_NoRow_NoLetter (tblI_cons T.is_NoText_NoLetter (tblI_cons T.is_NoWay_NoLetter (tblI_cons T.is_NoYard_NoLetter (tblI_cons T.is_NotDealt_NoLetter (tblI_cons T.is_TooMany_NoLetter tblI_nil))))))))) (mv 0)) (ma_cons (me_isE (tb := [("NoLetter", false), ("NoMap", false), ("NoName", false), ("NoRow", false), ("NoText", false), ("NoWay", false), ("NoYard", false), ("NotDealt", false), ("TooMany", true)]) T.b_isinstance (by rfl) (clsE_own (by rfl) (T.c_TooMany).choose_spec) (fun x h => T.xin x h) (tblI_cons T.is_NoLetter_TooMany (tblI_cons T.is_NoMap_TooMany (tblI_cons T.is_NoName_TooMany (tblI_cons T.is_NoRow_TooMany (tblI_cons T.is_NoText_TooMany (tblI_cons T.is_NoWay_TooMany (tblI_cons T.is_NoYard_TooMany (tblI_cons T.is_NotDealt_TooMany (tblI_cons T.is_TooMany_TooMany tblI_nil))))))))) (mv 0)) ma_nil)))))))))
theorem ok__law_bases (T : Tx K mg) {f : Addr} {fd : FuncData} (F : Fun K "_law_bases" "_law_bases" st__law_bases f fd) : FnOk P w K mg base CX0 1 f fd ["_law_e"] (sp0 K mg m__law_bases) :=
  fn_ok0 F sc__law_bases fun cdv A outer s H E hr =>
    (mss_cons (ms_set sc__law_bases.nd rfl (by first | exact .inl rfl | exact .inr rfl) (me_lst false (ma_cons (me_isE (tb := [("NoLetter", false), ("NoMap", true), ("NoName", true), ("NoRow", true), ("NoText", true), ("NoWay", false), ("NoYard", true), ("NotDealt", true), ("TooMany", false)]) T.b_isinstance (by rfl) (clsE_own (by rfl) (T.c_LoomError).choose_spec) (fun x h => T.xin x h) (tblI_cons T.is_NoLetter_LoomError (tblI_cons T.is_NoMap_LoomError (tblI_cons T.is_NoName_LoomError (tblI_cons T.is_NoRow_LoomError (tblI_cons T.is_NoText_LoomError (tblI_cons T.is_NoWay_LoomError (tblI_cons T.is_NoYard_LoomError (tblI_cons T.is_NotDealt_LoomError (tblI_cons T.is_TooMany_LoomError tblI_nil))))))))) (mv 0)) (ma_cons (me_isE (tb := [("NoLetter", false), ("NoMap", true), ("NoName", true), ("NoRow", true), ("NoText", true), ("NoWay", false), ("NoYard", true), ("NotDealt", true), ("TooMany", false)]) T.b_isinstance (by rfl) (clsE_blt (by rfl) T.b_ValueError (by rfl)) (fun x h => T.xin x h) (tblI_cons T.is_NoLetter_ValueError (tblI_cons T.is_NoMap_ValueError (tblI_cons T.is_NoName_ValueError (tblI_cons T.is_NoRow_ValueError (tblI_cons T.is_NoText_ValueError (tblI_cons T.is_NoWay_ValueError (tblI_cons T.is_NoYard_ValueError (tblI_cons T.is_NotDealt_ValueError (tblI_cons T.is_TooMany_ValueError tblI_nil))))))))) (mv 0)) (ma_cons (me_isE (tb := [("NoLetter", true), ("NoMap", false), ("NoName", false), ("NoRow", false), ("NoText", false), ("NoWay", true), ("NoYard", false), ("NotDealt", false), ("TooMany", false)]) T.b_isinstance (by rfl) (clsE_blt (by rfl) T.b_LookupError (by rfl)) (fun x h => T.xin x h) (tblI_cons T.is_NoLetter_LookupError (tblI_cons T.is_NoMap_LookupError (tblI_cons T.is_NoName_LookupError (tblI_cons T.is_NoRow_LookupError (tblI_cons T.is_NoText_LookupError (tblI_cons T.is_NoWay_LookupError (tblI_cons T.is_NoYard_LookupError (tblI_cons T.is_NotDealt_LookupError (tblI_cons T.is_TooMany_LookupError tblI_nil))))))))) (mv 0)) ma_nil)))))
    (mss_one (ms_ret (me_op (om_add false) (mv 1) (me_lst false (ma_cons (me_isE (tb := [("NoLetter", false), ("NoMap", false), ("NoName", false), ("NoRow", false), ("NoText", false), ("NoWay", false), ("NoYard", false), ("NotDealt", false), ("TooMany", true)]) T.b_isinstance (by rfl) (clsE_blt (by rfl) T.b_OverflowError (by rfl)) (fun x h => T.xin x h) (tblI_cons T.is_NoLetter_OverflowError (tblI_cons T.is_NoMap_OverflowError (tblI_cons T.is_NoName_OverflowError (tblI_cons T.is_NoRow_OverflowError (tblI_cons T.is_NoText_OverflowError (tblI_cons T.is_NoWay_OverflowError (tblI_cons T.is_NoYard_OverflowError (tblI_cons T.is_NotDealt_OverflowError (tblI_cons T.is_TooMany_OverflowError tblI_nil))))))))) (mv 0)) (ma_cons (me_isET (tb := [("NoLetter", false), ("NoMap", false), ("NoName", false), ("NoRow", false), ("NoText", false), ("NoWay", false), ("NoYard", false), ("NotDealt", false), ("TooMany", false)]) T.b_isinstance (by rfl) (ClsT.cons (clsE_blt (by rfl) T.b_KeyError (by rfl)) (ClsT.cons (clsE_blt (by rfl) T.b_IndexError (by rfl)) ClsT.nil (by rfl)) (by rfl)) (by decide) (fun x h => T.xin x h) (tblA_cons (AnyK.miss T.is_NoLetter_KeyError (AnyK.miss T.is_NoLetter_IndexError AnyK.nil)) (tblA_cons (AnyK.miss T.is_NoMap_KeyError (AnyK.miss T.is_NoMap_IndexError AnyK.nil)) (tblA_cons (AnyK.miss T.is_NoName_KeyError (AnyK.miss T.is_NoName_IndexError AnyK.nil)) (tblA_cons (AnyK.miss T.is_NoRow_KeyError (AnyK.miss T.is_NoRow_IndexError AnyK.nil)) (tblA_cons (AnyK.miss T.is_NoText_KeyError (AnyK.miss T.is_NoText_IndexError AnyK.nil)) (tblA_cons (AnyK.miss T.is_NoWay_KeyError (AnyK.miss T.is_NoWay_IndexError AnyK.nil)) (tblA_cons (AnyK.miss T.is_NoYard_KeyError (AnyK.miss T.is_NoYard_IndexError AnyK.nil)) (tblA_cons (AnyK.miss T.is_NotDealt_KeyError (AnyK.miss T.is_NotDealt_IndexError AnyK.nil)) (tblA_cons (AnyK.miss T.is_TooMany_KeyError (AnyK.miss T.is_TooMany_IndexError AnyK.nil)) tblA_nil))))))))) (mv 0)) ma_nil)))))))
theorem ok__law_right (T : Tx K mg) (h__law_bases : FnD P w K mg base 1 "_law_bases" ["_law_e"] m__law_bases) (h__law_fields : FnD P w K mg base 1 "_law_fields" ["_law_which", "_law_e"] m__law_fields) (h__law_kinds : FnD P w K mg base 1 "_law_kinds" ["_law_e"] m__law_kinds) {f : Addr} {fd : FuncData} (F : Fun K "_law_right" "_law_right" st__law_right f fd) : FnG P w K mg base CX0 2 f fd ["_law_which", "_law_e", "_law_due"] (sp0 K mg m__law_right) :=
  fn_okG F sc__law_right fun cdv A outer s H E hrG =>
    have hr := hrG.room
    (mss_cons (ms_if (mw_or (mt_cmp (om_ne hr.units) (me_callB (cm_repr hrG.gd hrG.un) T.b_repr (by rfl) boot_repr (ma_cons (me_call h__law_fields (hr.mono (by decide)) (by rfl) (ma_cons (mv 0) (ma_cons (mv 1) ma_nil))) ma_nil)) (me_callB (cm_repr hrG.gd hrG.un) T.b_repr (by rfl) boot_repr (ma_cons (mv 2) ma_nil)) (nomark _)) (mw_or1 (mt_cmp (om_ne hr.units) (me_call h__law_kinds (hr.mono (by decide)) (by rfl) (ma_cons (mv 1) ma_nil)) (me_lc false [("_law_k", 5)] rfl sc__law_right.nd (mi_rng1 T.b_range (by rfl) me_int) (blkOk_by (by kernel_rfl)) (fun _ _ _ _ _ => (mg_name (by decide) sc__law_right.nd rfl (by first | exact .inl rfl | exact .inr rfl))) (fun _ _ _ _ _ => mts_nil) (fun _ _ _ _ _ => (me_cmp (om_eq hr.units) (mv 5) (mv 0) (nomark _)))) (nomark _)))).pt (mss_one (ms_ret me_bl)) mss_nil)
    (mss_cons (ms_par rfl sc__law_right.nd rfl rfl (by decide) rfl rfl (ma_cons (me_cmp om_lt (mv 0) me_int (nomark _)) (ma_cons (me_cmp (om_in (hu1 hr)) (mv 0) (me_tup (ma_cons me_int (ma_cons me_int ma_nil))) rfl) ma_nil)))
    (mss_one (ms_ret (me_cmp (om_eq hr.units) (me_call h__law_bases (hr.mono (by decide)) (by rfl) (ma_cons (mv 1) ma_nil)) (me_lst false (ma_cons (mv 3) (ma_cons (mv 3) (ma_cons (mv 4) (ma_cons (me_cmp (om_eq hr.units) (mv 0) me_int (nomark _)) (ma_cons me_bl ma_nil)))))) (nomark _))))))
theorem ok_law (T : Tx K mg) (h__law_flow : FnD P w K mg base 1 "_law_flow" ["_law_script"] m__law_flow) (h__law_made : FnD P w K mg base 3 "_law_made" ["_law_which", "_law_by_name", "_law_one", "_law_other"] m__law_made) (h__law_pick : FnD P w K mg base 1 "_law_pick" ["_law_flow_here", "_law_many"] m__law_pick) (h__law_right : FnDG P w K mg base 2 "_law_right" ["_law_which", "_law_e", "_law_due"] m__law_right) (h__law_thing : FnD P w K mg base 3 "_law_thing" ["_law_flow_here"] m__law_thing) {f : Addr} {fd : FuncData} (F : Fun K "law" "law" st_law f fd) : FnG P w K mg base CX0 4 f fd ["_law_script"] (sp0 K mg m_law) :=
  fn_okG F sc_law fun cdv A outer s H E hrG =>
    have hr := hrG.room
    (mss_cons (ms_set sc_law.nd rfl (by first | exact .inl rfl | exact .inr rfl) (me_call h__law_flow (hr.mono (by decide)) (by rfl) (ma_cons (mv 0) ma_nil)))
    (mss_cons (ms_set sc_law.nd rfl (by first | exact .inl rfl | exact .inr rfl) (me_call h__law_pick (hr.mono (by decide)) (by rfl) (ma_cons (mv 1) (ma_cons me_int ma_nil))))
    (mss_cons (ms_for (vs := [3]) PassesOwn.never rfl (mi_rng1 T.b_range (by rfl) me_int) (mg_name (by decide) sc_law.nd rfl (by first | exact .inl rfl | exact .inr rfl)) (mss_cons (ms_set sc_law.nd rfl (by first | exact .inl rfl | exact .inr rfl) (me_op om_mod (me_op (om_add false) (mv 2) (mv 3)) me_int))
    (mss_cons (ms_setLc false [("_law_j", 10)] rfl sc_law.nd rfl rfl (sw_true rfl rfl rfl (by decide +kernel)) (mi_rng1 T.b_range (by rfl) me_int) (blkOk_by (by kernel_rfl)) (fun _ _ _ _ _ => (mg_name (by decide) sc_law.nd rfl (by first | exact .inl rfl | exact .inr rfl))) (fun _ _ _ _ _ => mts_nil) (fun _ _ _ _ _ => (me_call h__law_thing (hr.mono (by decide)) (by rfl) (ma_cons (mv 1) ma_nil))))
    (mss_cons (ms_set sc_law.nd rfl (by first | exact .inl rfl | exact .inr rfl) (me_cmp (om_eq hr.units) (me_call h__law_pick (hr.mono (by decide)) (by rfl) (ma_cons (mv 1) (ma_cons me_int ma_nil))) me_int (nomark _)))
    (mss_cons (ms_set sc_law.nd rfl (by first | exact .inl rfl | exact .inr rfl) (me_lst false (ma_cons (me_tup ma_nil) (ma_cons (me_tup ma_nil) ma_nil))))
    (mss_cons (ms_if (mt_cmp (om_in (hu1 hr)) (mv 4) (me_tup (ma_cons me_int (ma_cons me_int ma_nil))) rfl) (mss_one (ms_set sc_law.nd rfl (by first | exact .inl rfl | exact .inr rfl) (me_lst false (ma_cons (me_tup (ma_cons (me_ix im_ix (mv 5) me_int (fun _ _ => rfl)) (ma_cons (me_ix im_ix (mv 5) me_int (fun _ _ => rfl)) ma_nil))) (ma_cons (me_tup (ma_cons (me_ix im_ix (mv 5) me_int (fun _ _ => rfl)) (ma_cons (me_ix im_ix (mv 5) me_int (fun _ _ => rfl)) ma_nil))) ma_nil))))) (mss_one (ms_if (mt_cmp (om_ne hr.units) (mv 4) me_int (nomark _)) (mss_one (ms_set sc_law.nd rfl (by first | exact .inl rfl | exact .inr rfl) (me_lst false (ma_cons (me_tup (ma_cons (me_ix im_ix (mv 5) me_int (fun _ _ => rfl)) ma_nil)) (ma_cons (me_tup (ma_cons (me_ix im_ix (mv 5) me_int (fun _ _ => rfl)) ma_nil)) ma_nil))))) mss_nil)))
    (mss_cons (ms_set sc_law.nd rfl (by first | exact .inl rfl | exact .inr rfl) (me_call h__law_made (hr.mono (by decide)) (by rfl) (ma_cons (mv 4) (ma_cons (mv 6) (ma_cons (me_ix im_ix (mv 5) me_int (fun _ _ => rfl)) (ma_cons (me_ix im_ix (mv 5) me_int (fun _ _ => rfl)) ma_nil))))))
    (mss_cons (ms_set sc_law.nd rfl (by first | exact .inl rfl | exact .inr rfl) (me_call h__law_made (hr.mono (by decide)) (by rfl) (ma_cons (mv 4) (ma_cons (me_not (mv 6)) (ma_cons (me_ix im_ix (mv 5) me_int (fun _ _ => rfl)) (ma_cons (me_ix im_ix (mv 5) me_int (fun _ _ => rfl)) ma_nil))))))
    (mss_cons (ms_if (mw_or (mt_not (mt_tru (me_callG h__law_right (hrG.mono (by decide)) (by rfl) (ma_cons (mv 4) (ma_cons (mv 8) (ma_cons (me_ix im_ix (mv 7) me_int (fun _ _ => rfl)) ma_nil)))))) (mw_or1 (mt_not (mt_tru (me_callG h__law_right (hrG.mono (by decide)) (by rfl) (ma_cons (mv 4) (ma_cons (mv 9) (ma_cons (me_ix im_ix (mv 7) me_int (fun _ _ => rfl)) ma_nil)))))))).pt (mss_one (ms_ret me_bl)) mss_nil)
    (mss_one (ms_if (mt_not (mt_tru (me_callG h__law_right (hrG.mono (by decide)) (by rfl) (ma_cons (mv 4) (ma_cons (mv 8) (ma_cons (me_ix im_ix (mv 7) me_int (fun _ _ => rfl)) ma_nil)))))) (mss_one (ms_ret me_bl)) mss_nil)))))))))))
    (mss_one (ms_ret me_bl)))))
end
end Lw

namespace Lw
open PySem PySem.Spec PyProof.Rows L2 Mir Mir.Y
section
variable {m : Mem} {P : D → Mem → Prop} {i : Nat}
theorem of_inj {a b : String} (h : Str.ofString a = Str.ofString b) : a = b := by
  rw [Str.ofString_eq_toList, Str.ofString_eq_toList] at h
  have h : (a.toList.map Char.toNat).toArray = (b.toList.map Char.toNat).toArray := congrArg Str.cps h
  have h := congrArg Array.toList h
  have h : a.toList.map Char.toNat = b.toList.map Char.toNat := by simpa using h
  have h2 : a.toList = b.toList := (List.map_inj_right fun x y e => Char.toNat_inj.mp e).mp h
  exact String.toList_inj.mp h2
theorem bq (a b : String) : (Str.ofString a == Str.ofString b) = decide (a = b) := by
  by_cases h : a = b
  · subst h; simp
  · have : Str.ofString a ≠ Str.ofString b := fun e => h (of_inj e)
    simp [h, this]
theorem pick_big {n : Int} (hf : FlowAt m i) (hn : 0 < n) (hb : n < 2 ^ 64) (h : ∀ (k : Nat) m', (k : Int) < n → Flo m m' i → P (.int (k : Nat)) m') : Tri (m__law_pick [.ref i, .int n] m) P :=
  (pick_flo hf hn hb).mono fun d m' ⟨k, e, h1, h2⟩ => by
    rw [e]
    exact h k m' h1 h2
theorem ints_pl : ∀ (xs : List Nat), (∀ v ∈ xs, v ≤ 100) → Pls 2 (62 * xs.length) (xs.map fun v => .int ((v : Nat) : Int))
  | [], _ => pls_nil
  | x :: xs, h => by
    have h1 := h x List.mem_cons_self
    have p := pls_cons (pl_big (dep := 1) (i := ((x : Nat) : Int)) (by
      have : (10 : Nat) ^ 25 > 100000 := by decide +kernel
      omega)) (ints_pl xs fun v hv => h v (List.mem_cons_of_mem _ hv))
    exact p.up (Nat.le_refl _) (by rw [List.length_cons]; omega)
theorem thing_then (hf : FlowAt m i) (h : ∀ d m', Pl 3 400 d → Flo m m' i → P d m') : Tri (m__law_thing [.ref i] m) P := by
  refine tri_fn rfl ?_
  have e9 : ∀ m, gPow (.int 10) (.int 9) m = .ok (.int 1000000000) m := fun m => rfl
  have letOk : (letL.all fun c => decide ((Builtin.Str.reprChar 39 c).length ≤ 2) && decide ((Builtin.Str.reprChar 34 c).length ≤ 2)) = true := by decide +kernel
  have big : (10 : Nat) ^ 25 > 1000000000 := by decide +kernel
  simp [b__law_thing]
  refine pick_then hf (by decide) (by decide) fun k m1 hk hfl1 => ?_
  have k5 : k = 0 ∨ k = 1 ∨ k = 2 ∨ k = 3 ∨ k = 4 := by omega
  rcases k5 with rfl | rfl | rfl | rfl | rfl
  · simp [b__law_thing_s1]
    refine word_then hfl1.at fun x m2 hx hfl2 => ?_
    have := repr_le letOk (x := x) hx.let'
    have h6 := hx.hi
    exact h _ m2 (pl_str (dep := 2) (n := 400) (Nm.good hx) (by omega)) (hfl1.trans hfl2)
  · simp [b__law_thing_s1, b__law_thing_s2, e9]
    refine pick_big hfl1.at (by decide) (by decide) fun v m2 hv hfl2 => ?_
    exact h _ m2 ((pl_big (dep := 2) (by omega)).up (Nat.le_refl _) (by omega)) (hfl1.trans hfl2)
  · simp [b__law_thing_s1, b__law_thing_s2, b__law_thing_s3]
    refine pick_then hfl1.at (by decide) (by decide) fun v m2 hv hfl2 => ?_
    have hfl2 := hfl1.trans hfl2
    simp [-rng1R_int, rng_nat (n := v) (by omega)]
    obtain ⟨J, hJ⟩ : ∃ J : Nat → Mem → List D → Prop, ∀ k m' acc, J k m' acc ↔ (Flo m m' i ∧ ∃ xs : List Nat, acc = (xs.map fun v => .int ((v : Nat) : Int)) ∧ xs.length = k ∧ ∀ v ∈ xs, v ≤ 100) := ⟨_, fun _ _ _ => Iff.rfl⟩
    refine (comp_inv J (rngD 0 v) ((hJ _ _ _).mpr ⟨hfl2, [], rfl, rfl, fun v hv => (nomatch hv)⟩) fun j d m3 acc hd hj hI => ?_).mono fun acc m3 hI => ?_
    · obtain ⟨f3, xs, rfl, hxl, hxs⟩ := (hJ _ _ _).mp hI
      simp [wipeE]
      refine pick_then f3.at (by decide) (by decide) fun u m4 hu hfl4 => ?_
      have hjl : j < v := by simpa using hj
      refine ⟨Nat.lt_of_lt_of_le (show xs.length < 1000000 by omega) (size_le (Nat.le_refl _)), ?_⟩
      exact (hJ _ _ _).mpr ⟨f3.trans hfl4, xs ++ [u], by simp, by simp [hxl], fun v hv => by
        rcases List.mem_append.mp hv with hv | hv
        · exact hxs v hv
        · simp at hv; omega⟩
    · obtain ⟨f3, xs, rfl, hxl, hxs⟩ := (hJ _ _ _).mp hI
      try simp
      rw [rngD_length] at hxl
      exact h _ m3 ((pl_tup.mpr (ints_pl xs hxs)).up (by omega) (by omega)) f3
  · simp [b__law_thing_s1, b__law_thing_s2, b__law_thing_s3, b__law_thing_s4]
    refine pick_then hfl1.at (by decide) (by decide) fun v m2 hv hfl2 => ?_
    simp
    exact h _ m2 ((pl_non (dep := 2)).up (by omega) (by omega)) (hfl1.trans hfl2)
  · simp [b__law_thing_s1, b__law_thing_s2, b__law_thing_s3, b__law_thing_s4]
    refine pick_then hfl1.at (by decide) (by decide) fun v m2 hv hfl2 => ?_
    have e1 : ∀ (d e : D) m, gIx (.lst [d, e]) (.int 1) m = .ok e m := fun _ _ _ => rfl
    simp [e1]
    exact h _ m2 ((pl_big (dep := 2) (by omega)).up (Nat.le_refl _) (by omega)) (hfl1.trans hfl2)
/-! ### the nine classes -/
def clsW (w : Nat) : Str := match w with
  | 0 => "NoText" | 1 => "NoMap" | 2 => "NoYard" | 3 => "NotDealt" | 4 => "NoName" | 5 => "NoRow" | 6 => "NoWay" | 7 => "NoLetter" | _ => "TooMany"
def fldW (w : Nat) (a c : D) : List (Str × D) := match w with
  | 0 => [("row", a)] | 1 => [("at", c), ("word", a)] | 2 => [("at", c), ("word", a)] | 3 => [("heap", a)] | 4 => [("name", a)] | 5 => [] | 6 => [("deed", a)] | 7 => [("place", a)] | _ => [("most", a)]
def dueW (w : Nat) (a c : D) : List D := match w with
  | 1 => [a, c] | 2 => [a, c] | 5 => [] | _ => [a]
theorem nine {w : Nat} (h : w < 9) : w = 0 ∨ w = 1 ∨ w = 2 ∨ w = 3 ∨ w = 4 ∨ w = 5 ∨ w = 6 ∨ w = 7 ∨ w = 8 := by omega
theorem made_eq {w : Nat} (h : w < 9) (b : Bool) (a c : D) : m__law_made [.int (w : Nat), .bl b, a, c] m = .ok (.ref m.length) (m ++ [.exc (clsW w) (fldW w a c)]) := by
  have key : Tri (m__law_made [.int (w : Nat), .bl b, a, c] m) (fun d m' => d = .ref m.length ∧ m' = m ++ [.exc (clsW w) (fldW w a c)]) := by
    refine tri_fn rfl ?_
    rcases nine h with rfl | rfl | rfl | rfl | rfl | rfl | rfl | rfl | rfl
    · cases b <;> simp [b__law_made, arr, clsW, fldW]
    · cases b <;> simp [b__law_made, b__law_made_s1, arr, clsW, fldW]
    · cases b <;> simp [b__law_made, b__law_made_s1, b__law_made_s2, arr, clsW, fldW]
    · cases b <;> simp [b__law_made, b__law_made_s1, b__law_made_s2, b__law_made_s3, arr, clsW, fldW]
    · cases b <;> simp [b__law_made, b__law_made_s1, b__law_made_s2, b__law_made_s3, b__law_made_s4, arr, clsW, fldW]
    · cases b <;> simp [b__law_made, b__law_made_s1, b__law_made_s2, b__law_made_s3, b__law_made_s4, b__law_made_s5, arr, clsW, fldW]
    · cases b <;> simp [b__law_made, b__law_made_s1, b__law_made_s2, b__law_made_s3, b__law_made_s4, b__law_made_s5, b__law_made_s6, arr, clsW, fldW]
    · cases b <;> simp [b__law_made, b__law_made_s1, b__law_made_s2, b__law_made_s3, b__law_made_s4, b__law_made_s5, b__law_made_s6, b__law_made_s7, arr, clsW, fldW]
    · cases b <;> simp [b__law_made, b__law_made_s1, b__law_made_s2, b__law_made_s3, b__law_made_s4, b__law_made_s5, b__law_made_s6, b__law_made_s7, b__law_made_s8, arr, clsW, fldW]
  obtain ⟨d, m', e, rfl, rfl⟩ := key.ex
  exact e
theorem fields_eq {w q : Nat} (h : w < 9) {a c : D} (hq : m[q]? = some (.exc (clsW w) (fldW w a c))) : m__law_fields [.int (w : Nat), .ref q] m = .ok (.tup (dueW w a c)) m := by
  have key : Tri (m__law_fields [.int (w : Nat), .ref q] m) (fun d m' => d = .tup (dueW w a c) ∧ m' = m) := by
    refine tri_fn rfl ?_
    have he := excOf_ref hq
    rcases nine h with rfl | rfl | rfl | rfl | rfl | rfl | rfl | rfl | rfl
    · simp [b__law_fields, he, clsW, fldW, dueW, List.lookup, bq]
    · simp [b__law_fields, b__law_fields_s1, he, clsW, fldW, dueW, List.lookup, bq]
    · simp [b__law_fields, b__law_fields_s1, he, clsW, fldW, dueW, List.lookup, bq]
    · simp [b__law_fields, b__law_fields_s1, b__law_fields_s2, he, clsW, fldW, dueW, List.lookup, bq]
    · simp [b__law_fields, b__law_fields_s1, b__law_fields_s2, b__law_fields_s3, he, clsW, fldW, dueW, List.lookup, bq]
    · simp [b__law_fields, b__law_fields_s1, b__law_fields_s2, b__law_fields_s3, b__law_fields_s4, he, clsW, fldW, dueW, List.lookup, bq]
    · simp [b__law_fields, b__law_fields_s1, b__law_fields_s2, b__law_fields_s3, b__law_fields_s4, b__law_fields_s5, he, clsW, fldW, dueW, List.lookup, bq]
    · simp [b__law_fields, b__law_fields_s1, b__law_fields_s2, b__law_fields_s3, b__law_fields_s4, b__law_fields_s5, b__law_fields_s6, he, clsW, fldW, dueW, List.lookup, bq]
    · simp [b__law_fields, b__law_fields_s1, b__law_fields_s2, b__law_fields_s3, b__law_fields_s4, b__law_fields_s5, b__law_fields_s6, b__law_fields_s7, he, clsW, fldW, dueW, List.lookup, bq]
  obtain ⟨d, m', e, rfl, rfl⟩ := key.ex
  exact e
theorem kinds_eq {w q : Nat} (h : w < 9) {a c : D} (hq : m[q]? = some (.exc (clsW w) (fldW w a c))) : m__law_kinds [.ref q] m = .ok (.lst ((List.range 9).map fun k => D.bl (decide (k = w)))) m := by
  have key : Tri (m__law_kinds [.ref q] m) (fun d m' => d = .lst ((List.range 9).map fun k => D.bl (decide (k = w))) ∧ m' = m) := by
    refine tri_fn rfl ?_
    have he := excOf_ref hq
    rcases nine h with rfl | rfl | rfl | rfl | rfl | rfl | rfl | rfl | rfl
    all_goals
      simp [b__law_kinds, he, clsW, List.lookup, bq, b__law_kinds_s1, b__law_kinds_s2]
      rw [cat_own (own_lst _ _) (own_lst _ _) (by simp)]
      simp [he, clsW, List.lookup, bq]
      rw [cat_own (own_lst _ _) (own_lst _ _) (by simp)]
      simp [he, clsW, List.lookup, bq]
      try rfl
  obtain ⟨d, m', e, rfl, rfl⟩ := key.ex
  exact e
theorem bases_eq {w q : Nat} (h : w < 9) {a c : D} (hq : m[q]? = some (.exc (clsW w) (fldW w a c))) : m__law_bases [.ref q] m = .ok (.lst [.bl (decide (w < 6)), .bl (decide (w < 6)), .bl (decide (w = 6 ∨ w = 7)), .bl (decide (w = 8)), .bl false]) m := by
  have key : Tri (m__law_bases [.ref q] m) (fun d m' => d = .lst [.bl (decide (w < 6)), .bl (decide (w < 6)), .bl (decide (w = 6 ∨ w = 7)), .bl (decide (w = 8)), .bl false] ∧ m' = m) := by
    refine tri_fn rfl ?_
    have he := excOf_ref hq
    rcases nine h with rfl | rfl | rfl | rfl | rfl | rfl | rfl | rfl | rfl
    all_goals
      simp [b__law_bases, he, clsW, List.lookup, bq, b__law_bases_s1]
      rw [cat_own (own_lst _ _) (own_lst _ _) (by simp)]
      simp
  obtain ⟨d, m', e, rfl, rfl⟩ := key.ex
  exact e
theorem due_pl {w : Nat} {a c : D} (h : w < 9) (pa : Pl 3 400 a) (pc : Pl 3 400 c) : Pl 4 1000 (.tup (dueW w a c)) := by
  rcases nine h with rfl | rfl | rfl | rfl | rfl | rfl | rfl | rfl | rfl
  · exact (pl_tup.mpr (pls_cons pa pls_nil)).up (by omega) (by omega)
  · exact (pl_tup.mpr (pls_cons pa (pls_cons pc pls_nil))).up (by omega) (by omega)
  · exact (pl_tup.mpr (pls_cons pa (pls_cons pc pls_nil))).up (by omega) (by omega)
  · exact (pl_tup.mpr (pls_cons pa pls_nil)).up (by omega) (by omega)
  · exact (pl_tup.mpr (pls_cons pa pls_nil)).up (by omega) (by omega)
  · exact (pl_tup.mpr (pls_nil (dep := 3))).up (by omega) (by omega)
  · exact (pl_tup.mpr (pls_cons pa pls_nil)).up (by omega) (by omega)
  · exact (pl_tup.mpr (pls_cons pa pls_nil)).up (by omega) (by omega)
  · exact (pl_tup.mpr (pls_cons pa pls_nil)).up (by omega) (by omega)
theorem repr_any {d : D} {dep n : Nat} (h : Pl dep n d) (hd : dep ≤ 20) (hn : n ≤ 1000000) : ∃ x, ∀ m, bRepr [d] m = .ok (.str x) m := by
  have rp := fun m m' => repr_pl (h.up hd (Nat.le_refl _)) hn m m'
  obtain ⟨x, hx, _⟩ := rp [] []
  exact ⟨x, fun m => by
    obtain ⟨x', q1, q2⟩ := rp [] m
    rw [hx] at q1
    cases q1
    exact q2⟩
theorem ap_par (i j : Nat) (a : AM) (η : Env') (m : Mem) : mPar i j a η m = (a η m).toS fun xs m1 => match xs with
  | [x, y] => .nxt ((η.set i (some x)).set j (some y)) m1
  | _ => .stk := rfl
theorem right_eq {w q : Nat} (h : w < 9) {a c : D} (pa : Pl 3 400 a) (pc : Pl 3 400 c) (hq : m[q]? = some (.exc (clsW w) (fldW w a c))) : m__law_right [.int (w : Nat), .ref q, .tup (dueW w a c)] m = .ok (.bl true) m := by
  have key : Tri (m__law_right [.int (w : Nat), .ref q, .tup (dueW w a c)] m) (fun d m' => d = .bl true ∧ m' = m) := by
    refine tri_fn rfl ?_
    obtain ⟨x, hx⟩ := repr_any (due_pl h pa pc) (by omega) (by omega)
    simp [b__law_right, fields_eq h hq, hx, kinds_eq h hq, -rng1R_int, rng_nat (n := 9) (by omega)]
    rw [show ((9 : Int)) = ((9 : Nat) : Int) from rfl, rng_nat (n := 9) (by omega)]
    simp
    rw [comp_map (fun d => D.bl (match d with | .int v => decide (v = (w : Int)) | _ => false)) (rngD 0 9) [] (fun d hd => by
      rw [rngD_nat] at hd
      obtain ⟨k, _, rfl⟩ := List.mem_map.mp hd
      refine ⟨_, rfl, rfl, ?_⟩
      simp [wipeE]) (size_le (by simp))]
    simp [rngD_nat]
    have eqs : ∀ m, gEq true (.lst ((List.range 9).map fun k => D.bl (decide (k = w)))) (.lst ((List.range 9).map fun k => D.bl (decide (k = w)))) m = .ok (.bl false) m := fun m => by
      rcases nine h with rfl | rfl | rfl | rfl | rfl | rfl | rfl | rfl | rfl <;> rfl
    have eq2 : (List.range 9).map ((fun d : D => D.bl (match d with | .int v => decide (v = (w : Int)) | _ => false)) ∘ fun k : Nat => D.int (k : Int)) = (List.range 9).map fun k => D.bl (decide (k = w)) := List.map_congr_left fun k _ => congrArg D.bl (decide_eq_decide.mpr (by omega))
    rw [eq2, eqs]
    have inq : ∀ m, gIn false (.int (w : Nat)) (.tup [.int 6, .int 7]) m = .ok (.bl (decide (w = 6 ∨ w = 7))) m := fun m => by
      rcases nine h with rfl | rfl | rfl | rfl | rfl | rfl | rfl | rfl | rfl <;> rfl
    have lt6 : ∀ m, gLt (.int (w : Nat)) (.int 6) m = .ok (.bl (decide (w < 6))) m := fun m => congrArg (fun b => R.ok (D.bl b) m) (decide_eq_decide.mpr (by omega))
    have e8 : ∀ m, gEq false (.int (w : Nat)) (.int 8) m = .ok (.bl (decide (w = 8))) m := fun m => by
      rcases nine h with rfl | rfl | rfl | rfl | rfl | rfl | rfl | rfl | rfl <;> rfl
    have eqb : ∀ (a b c : Bool) (m : Mem), gEq false (.lst [.bl a, .bl a, .bl b, .bl c, .bl false]) (.lst [.bl a, .bl a, .bl b, .bl c, .bl false]) m = .ok (.bl true) m := fun a b c m => by
      cases a <;> cases b <;> cases c <;> rfl
    simp only [tri_ok, toB_bl]
    refine ⟨trivial, ?_⟩
    unfold b__law_right_s1
    simp only [ap_seq, tris_seq, ap_par, ap_cons, ap_op, ap_mVar]
    simp [inq, lt6, b__law_right_s2, bases_eq h hq, e8, eqb]
  obtain ⟨d, m', e, rfl, rfl⟩ := key.ex
  exact e
end
theorem law_true (ns : List Int) (hl : ns.length ≤ 63) : ∃ m, m_law [.scr (ns.map .int)] [] = .ok (.bl true) m := by
  have key : Tri (m_law [.scr (ns.map .int)] []) (fun d m' => d = .bl true) := by
    refine tri_fn rfl ?_
    obtain ⟨m0, e0, hf⟩ := flow_y ns hl
    simp [b_law, e0, b_law_s1]
    refine pick_then hf (by decide) (by decide) fun f m1 hf9 s1 => ?_
    simp [b_law_s2]
    obtain ⟨J, hJ⟩ : ∃ J : Nat → Env' → Mem → Prop, ∀ t η m', J t η m' ↔ FlowAt m' 0 ∧ ∃ e3 e4 e5 e6 e7 e8 e9 e10, η = [some (.scr (ns.map .int)), some (.ref 0), some (.int (f : Nat)), e3, e4, e5, e6, e7, e8, e9, e10] := ⟨_, fun _ _ _ => Iff.rfl⟩
    refine for_inv J _ ((hJ _ _ _).mpr ⟨s1.at, _, _, _, _, _, _, _, _, rfl⟩) (fun t d η m2 hdd hI => ?_) (fun η m2 hI => ?_)
    · obtain ⟨f2, e3, e4, e5, e6, e7, e8, e9, e10, rfl⟩ := (hJ _ _ _).mp hI
      obtain ⟨ht, rfl⟩ := rng_get hdd
      obtain ⟨w, hw⟩ : ∃ w, w = (f + t) % 9 := ⟨_, rfl⟩
      have w9 : w < 9 := by omega
      have ew : ∀ m, gMod (.int ((f : Int) + (t : Int))) (.int 9) m = .ok (.int (w : Nat)) m := fun m => by
        rw [gMod_pos (by decide)]
        rw [show ((f : Int) + (t : Int)) % 9 = (w : Nat) by omega]
      have four : ∀ {P : List D → Mem → Prop}, (∀ x0 x1 x2 x3 m3, Pl 3 400 x0 → Pl 3 400 x1 → Pl 3 400 x2 → Pl 3 400 x3 → Flo m2 m3 0 → P [x0, x1, x2, x3] m3) → Tri (compD (gNm 10) mYes (mCall m__law_thing (mCons (mVar 1) mNil)) (wipeE [some (.scr (ns.map .int)), some (.ref 0), some (.int (f : Nat)), some (.int (t : Nat)), some (.int (w : Nat)), e5, e6, e7, e8, e9, e10] [10]) (rngD 0 4) m2 []) P := fun {P} hP => by
        obtain ⟨K, hK⟩ : ∃ J : Nat → Mem → List D → Prop, ∀ k m' acc, J k m' acc ↔ (Flo m2 m' 0 ∧ acc.length = k ∧ ∀ x ∈ acc, Pl 3 400 x) := ⟨_, fun _ _ _ => Iff.rfl⟩
        refine (comp_inv K (rngD 0 4) ((hK _ _ _).mpr ⟨Flo.refl f2, rfl, fun v hv => (nomatch hv)⟩) fun j d m3 acc hd hj hI => ?_).mono fun acc m3 hI => ?_
        · obtain ⟨f3, hxl, hxs⟩ := (hK _ _ _).mp hI
          simp [wipeE]
          refine thing_then f3.at fun x m4 px hfl4 => ?_
          try simp
          have hj4 : j < 4 := by simpa using hj
          refine ⟨Nat.lt_of_lt_of_le (show acc.length < 1000000 by omega) (size_le (Nat.le_refl _)), ?_⟩
          exact (hK _ _ _).mpr ⟨f3.trans hfl4, by simp [hxl], fun v hv => by
            rcases List.mem_append.mp hv with hv | hv
            · exact hxs v hv
            · simp at hv
              rw [hv]
              exact px⟩
        · obtain ⟨f3, hxl, hxs⟩ := (hK _ _ _).mp hI
          rw [rngD_length] at hxl
          match acc, hxl, hxs with
          | [x0, x1, x2, x3], _, hxs => exact hP x0 x1 x2 x3 m3 (hxs _ (by simp)) (hxs _ (by simp)) (hxs _ (by simp)) (hxs _ (by simp)) f3
      simp [b_law_0, ew, b_law_0s1]
      refine four fun x0 x1 x2 x3 m3 p0 p1 p2 p3 s3 => ?_
      have g0 : ∀ m, gIx (.lst [x0, x1, x2, x3]) (.int 0) m = .ok x0 m := fun m => rfl
      have g1 : ∀ m, gIx (.lst [x0, x1, x2, x3]) (.int 1) m = .ok x1 m := fun m => rfl
      have g2 : ∀ m, gIx (.lst [x0, x1, x2, x3]) (.int 2) m = .ok x2 m := fun m => rfl
      have g3 : ∀ m, gIx (.lst [x0, x1, x2, x3]) (.int 3) m = .ok x3 m := fun m => rfl
      simp [b_law_0s2]
      refine pick_then s3.at (by decide) (by decide) fun v m4 hv s4 => ?_
      have s4 := s3.trans s4
      have last : ∀ (b : Bool), TriQ (b_law_0s5 [some (.scr (ns.map .int)), some (.ref 0), some (.int (f : Nat)), some (.int (t : Nat)), some (.int (w : Nat)), some (.lst [x0, x1, x2, x3]), some (.bl b), some (.lst [.tup (dueW w x0 x1), .tup (dueW w x2 x3)]), e8, e9, e10] m4) (J (t + 1)) (fun η m => TriS (b_law_s3 η m) (fun x m => False) fun d m' => d = .bl true) (J (t + 1)) (fun d m' => d = .bl true) := fun b => by
        have d0 : ∀ m, gIx (.lst [.tup (dueW w x0 x1), .tup (dueW w x2 x3)]) (.int 0) m = .ok (.tup (dueW w x0 x1)) m := fun m => rfl
        have d1 : ∀ m, gIx (.lst [.tup (dueW w x0 x1), .tup (dueW w x2 x3)]) (.int 1) m = .ok (.tup (dueW w x2 x3)) m := fun m => rfl
        simp [b_law_0s5, g0, g1, made_eq w9, b_law_0s6, g2, g3, b_law_0s7, b_law_0s8]
        have c1 : (m4 ++ [Cell.exc (clsW w) (fldW w x0 x1), Cell.exc (clsW w) (fldW w x2 x3)])[m4.length]? = some (.exc (clsW w) (fldW w x0 x1)) := by simp
        have c2 : (m4 ++ [Cell.exc (clsW w) (fldW w x0 x1), Cell.exc (clsW w) (fldW w x2 x3)])[m4.length + 1]? = some (.exc (clsW w) (fldW w x2 x3)) := by simp
        have fl : Flo m2 (m4 ++ [Cell.exc (clsW w) (fldW w x0 x1), Cell.exc (clsW w) (fldW w x2 x3)]) 0 := by
          have := (s4.push (Cell.exc (clsW w) (fldW w x0 x1))).push (Cell.exc (clsW w) (fldW w x2 x3))
          simpa using this
        generalize m4 ++ [Cell.exc (clsW w) (fldW w x0 x1), Cell.exc (clsW w) (fldW w x2 x3)] = m5 at c1 c2 fl ⊢
        simp [right_eq w9 p0 p1 c1, right_eq w9 p2 p3 c2, d0, d1]
        exact (hJ _ _ _).mpr ⟨fl.at, _, _, _, _, _, _, _, _, rfl⟩
      have i12 : ∀ m, gIn false (.int (w : Nat)) (.tup [.int 1, .int 2]) m = .ok (.bl (decide (w = 1 ∨ w = 2))) m := fun m => by
        rcases nine w9 with rfl | rfl | rfl | rfl | rfl | rfl | rfl | rfl | rfl <;> rfl
      simp [b_law_0s3, b_law_0s4, i12]
      by_cases h12 : w = 1 ∨ w = 2
      · have e : dueW w x0 x1 = [x0, x1] ∧ dueW w x2 x3 = [x2, x3] := by rcases h12 with h | h <;> (rw [h]; exact ⟨rfl, rfl⟩)
        have := last (decide ((v : Int) = 0))
        rw [e.1, e.2] at this
        rw [if_pos h12]
        try simp [g0, g1, g2, g3]
        simpa using this
      · rw [if_neg h12]
        by_cases h5 : w = 5
        · have e : dueW w x0 x1 = [] ∧ dueW w x2 x3 = [] := by rw [h5]; exact ⟨rfl, rfl⟩
          have := last (decide ((v : Int) = 0))
          rw [e.1, e.2] at this
          have h5' : (w : Int) = 5 := by omega
          simp [h5, h5']
          simpa [h5] using this
        · have e : dueW w x0 x1 = [x0] ∧ dueW w x2 x3 = [x2] := by
            rcases nine w9 with h | h | h | h | h | h | h | h | h
            · rw [h]; exact ⟨rfl, rfl⟩
            · exact absurd (.inl h) h12
            · exact absurd (.inr h) h12
            · rw [h]; exact ⟨rfl, rfl⟩
            · rw [h]; exact ⟨rfl, rfl⟩
            · exact absurd h h5
            · rw [h]; exact ⟨rfl, rfl⟩
            · rw [h]; exact ⟨rfl, rfl⟩
            · rw [h]; exact ⟨rfl, rfl⟩
          have := last (decide ((v : Int) = 0))
          rw [e.1, e.2] at this
          have h5' : ¬ (w : Int) = 5 := by omega
          simp [h5, h5', g0, g2]
          simpa using this
    · obtain ⟨f2, e3, e4, e5, e6, e7, e8, e9, e10, rfl⟩ := (hJ _ _ _).mp hI
      simp [b_law_s3]
  obtain ⟨d, m', e, rfl⟩ := key.ex
  exact ⟨m', e⟩
end Lw

namespace Lw
open PySem PySem.Spec PyProof.Rows L2 Mir Mir.Y
/-! ### what the top has written -/
def spLaw (K : PySem.W.Frag) : Sp := fun vs H Q _ => ∃ (a : Addr) (ns : List Int), vs = [.ref a] ∧ SqL K H a (ns.map V.int) ∧ ns.length ≤ 63 ∧ ∀ H', Q (.bl true) H'
theorem all_mk {l : PySem.W.OpenLaw} {w : World} {K : PySem.W.Frag} {h : Heap} {mg : Str → Option Value} {fa : Addr} (X : K.In h) (G : h.Ns mainGlobals mg) (hfa : mg "law" = some (.ref fa))
    {f0 : Addr} {od0 an0 : Option Addr} {sl0 : Array (Option Value)} {oc0 kV0 dc0 pm0 cd0 ct0 : Value}
    {f1 : Addr} {od1 an1 : Option Addr} {sl1 : Array (Option Value)} {oc1 kV1 dc1 pm1 cd1 ct1 : Value}
    {f2 : Addr} {od2 an2 : Option Addr} {sl2 : Array (Option Value)} {oc2 kV2 dc2 pm2 cd2 ct2 : Value}
    {f3 : Addr} {od3 an3 : Option Addr} {sl3 : Array (Option Value)} {oc3 kV3 dc3 pm3 cd3 ct3 : Value}
    {f4 : Addr} {od4 an4 : Option Addr} {sl4 : Array (Option Value)} {oc4 kV4 dc4 pm4 cd4 ct4 : Value}
    {f5 : Addr} {od5 an5 : Option Addr} {sl5 : Array (Option Value)} {oc5 kV5 dc5 pm5 cd5 ct5 : Value}
    {f6 : Addr} {od6 an6 : Option Addr} {sl6 : Array (Option Value)} {oc6 kV6 dc6 pm6 cd6 ct6 : Value}
    {f7 : Addr} {od7 an7 : Option Addr} {sl7 : Array (Option Value)} {oc7 kV7 dc7 pm7 cd7 ct7 : Value}
    {f8 : Addr} {od8 an8 : Option Addr} {sl8 : Array (Option Value)} {oc8 kV8 dc8 pm8 cd8 ct8 : Value}
    {f9 : Addr} {od9 an9 : Option Addr} {sl9 : Array (Option Value)} {oc9 kV9 dc9 pm9 cd9 ct9 : Value}
    (a0 : PySem.W.nsIn K mainGlobals "_law_flow" = some (some (.ref f0))) (l0 : K.lookup f0 = some ⟨oc0, od0, .func (PySem.W.fnOf "_law_flow" "_law_flow" (defArgs st__law_flow) (defBody st__law_flow) (defScope st__law_flow) .none kV0 dc0 pm0 an0 cd0 ct0), sl0⟩) (c0 : PySem.W.codeIn K cd0 "_law_flow" = true) (k0 : PySem.W.keepIn K (.ref f0) = true)
    (a1 : PySem.W.nsIn K mainGlobals "_law_pick" = some (some (.ref f1))) (l1 : K.lookup f1 = some ⟨oc1, od1, .func (PySem.W.fnOf "_law_pick" "_law_pick" (defArgs st__law_pick) (defBody st__law_pick) (defScope st__law_pick) .none kV1 dc1 pm1 an1 cd1 ct1), sl1⟩) (c1 : PySem.W.codeIn K cd1 "_law_pick" = true) (k1 : PySem.W.keepIn K (.ref f1) = true)
    (a2 : PySem.W.nsIn K mainGlobals "_law_word" = some (some (.ref f2))) (l2 : K.lookup f2 = some ⟨oc2, od2, .func (PySem.W.fnOf "_law_word" "_law_word" (defArgs st__law_word) (defBody st__law_word) (defScope st__law_word) .none kV2 dc2 pm2 an2 cd2 ct2), sl2⟩) (c2 : PySem.W.codeIn K cd2 "_law_word" = true) (k2 : PySem.W.keepIn K (.ref f2) = true)
    (a3 : PySem.W.nsIn K mainGlobals "_law_thing" = some (some (.ref f3))) (l3 : K.lookup f3 = some ⟨oc3, od3, .func (PySem.W.fnOf "_law_thing" "_law_thing" (defArgs st__law_thing) (defBody st__law_thing) (defScope st__law_thing) .none kV3 dc3 pm3 an3 cd3 ct3), sl3⟩) (c3 : PySem.W.codeIn K cd3 "_law_thing" = true) (k3 : PySem.W.keepIn K (.ref f3) = true)
    (a4 : PySem.W.nsIn K mainGlobals "_law_made" = some (some (.ref f4))) (l4 : K.lookup f4 = some ⟨oc4, od4, .func (PySem.W.fnOf "_law_made" "_law_made" (defArgs st__law_made) (defBody st__law_made) (defScope st__law_made) .none kV4 dc4 pm4 an4 cd4 ct4), sl4⟩) (c4 : PySem.W.codeIn K cd4 "_law_made" = true) (k4 : PySem.W.keepIn K (.ref f4) = true)
    (a5 : PySem.W.nsIn K mainGlobals "_law_fields" = some (some (.ref f5))) (l5 : K.lookup f5 = some ⟨oc5, od5, .func (PySem.W.fnOf "_law_fields" "_law_fields" (defArgs st__law_fields) (defBody st__law_fields) (defScope st__law_fields) .none kV5 dc5 pm5 an5 cd5 ct5), sl5⟩) (c5 : PySem.W.codeIn K cd5 "_law_fields" = true) (k5 : PySem.W.keepIn K (.ref f5) = true)
    (a6 : PySem.W.nsIn K mainGlobals "_law_kinds" = some (some (.ref f6))) (l6 : K.lookup f6 = some ⟨oc6, od6, .func (PySem.W.fnOf "_law_kinds" "_law_kinds" (defArgs st__law_kinds) (defBody st__law_kinds) (defScope st__law_kinds) .none kV6 dc6 pm6 an6 cd6 ct6), sl6⟩) (c6 : PySem.W.codeIn K cd6 "_law_kinds" = true) (k6 : PySem.W.keepIn K (.ref f6) = true)
    (a7 : PySem.W.nsIn K mainGlobals "_law_bases" = some (some (.ref f7))) (l7 : K.lookup f7 = some ⟨oc7, od7, .func (PySem.W.fnOf "_law_bases" "_law_bases" (defArgs st__law_bases) (defBody st__law_bases) (defScope st__law_bases) .none kV7 dc7 pm7 an7 cd7 ct7), sl7⟩) (c7 : PySem.W.codeIn K cd7 "_law_bases" = true) (k7 : PySem.W.keepIn K (.ref f7) = true)
    (a8 : PySem.W.nsIn K mainGlobals "_law_right" = some (some (.ref f8))) (l8 : K.lookup f8 = some ⟨oc8, od8, .func (PySem.W.fnOf "_law_right" "_law_right" (defArgs st__law_right) (defBody st__law_right) (defScope st__law_right) .none kV8 dc8 pm8 an8 cd8 ct8), sl8⟩) (c8 : PySem.W.codeIn K cd8 "_law_right" = true) (k8 : PySem.W.keepIn K (.ref f8) = true)
    (a9 : PySem.W.nsIn K mainGlobals "law" = some (some (.ref f9))) (l9 : K.lookup f9 = some ⟨oc9, od9, .func (PySem.W.fnOf "law" "law" (defArgs st_law) (defBody st_law) (defScope st_law) .none kV9 dc9 pm9 an9 cd9 ct9), sl9⟩) (c9 : PySem.W.codeIn K cd9 "law" = true) (k9 : PySem.W.keepIn K (.ref f9) = true)
    (z_IndexError : PySem.W.nsIn K mainGlobals "IndexError" = some none)
    (z_KeyError : PySem.W.nsIn K mainGlobals "KeyError" = some none)
    (z_LookupError : PySem.W.nsIn K mainGlobals "LookupError" = some none)
    (z_OverflowError : PySem.W.nsIn K mainGlobals "OverflowError" = some none)
    (z_ValueError : PySem.W.nsIn K mainGlobals "ValueError" = some none)
    (z_isinstance : PySem.W.nsIn K mainGlobals "isinstance" = some none)
    (z_len : PySem.W.nsIn K mainGlobals "len" = some none)
    (z_list : PySem.W.nsIn K mainGlobals "list" = some none)
    (z_range : PySem.W.nsIn K mainGlobals "range" = some none)
    (z_repr : PySem.W.nsIn K mainGlobals "repr" = some none)
    (z_tuple : PySem.W.nsIn K mainGlobals "tuple" = some none)
    {C_LoomError : Addr} (qa_LoomError : PySem.W.nsIn K mainGlobals "LoomError" = some (some (.ref C_LoomError)))
    {C_NoLetter : Addr} (qa_NoLetter : PySem.W.nsIn K mainGlobals "NoLetter" = some (some (.ref C_NoLetter)))
    {C_NoMap : Addr} (qa_NoMap : PySem.W.nsIn K mainGlobals "NoMap" = some (some (.ref C_NoMap)))
    {C_NoName : Addr} (qa_NoName : PySem.W.nsIn K mainGlobals "NoName" = some (some (.ref C_NoName)))
    {C_NoRow : Addr} (qa_NoRow : PySem.W.nsIn K mainGlobals "NoRow" = some (some (.ref C_NoRow)))
    {C_NoText : Addr} (qa_NoText : PySem.W.nsIn K mainGlobals "NoText" = some (some (.ref C_NoText)))
    {C_NoWay : Addr} (qa_NoWay : PySem.W.nsIn K mainGlobals "NoWay" = some (some (.ref C_NoWay)))
    {C_NoYard : Addr} (qa_NoYard : PySem.W.nsIn K mainGlobals "NoYard" = some (some (.ref C_NoYard)))
    {C_NotDealt : Addr} (qa_NotDealt : PySem.W.nsIn K mainGlobals "NotDealt" = some (some (.ref C_NotDealt)))
    {C_TooMany : Addr} (qa_TooMany : PySem.W.nsIn K mainGlobals "TooMany" = some (some (.ref C_TooMany)))
    {nm_NoLetter q_NoLetter : Str} {N_NoLetter f_NoLetter : Addr} {bs_NoLetter sb_NoLetter : List Value} {sn_NoLetter : List Str} {ab_NoLetter : Bool} {col_NoLetter : Option Bool} {dd_NoLetter od_NoLetter an_NoLetter : Option Addr} {m0_NoLetter m1_NoLetter m2_NoLetter m3_NoLetter m5_NoLetter : Option Value} {oc_NoLetter kV_NoLetter dc_NoLetter pm_NoLetter cd_NoLetter ct_NoLetter : Value} {sl_NoLetter : Array (Option Value)}
    (ql_NoLetter : K.lookup C_NoLetter = some (excClassObj nm_NoLetter q_NoLetter C_NoLetter N_NoLetter bs_NoLetter [.type "LookupError", .type "Exception", .type "BaseException", .type "object"] true sn_NoLetter sb_NoLetter ab_NoLetter col_NoLetter dd_NoLetter m0_NoLetter m1_NoLetter m2_NoLetter m3_NoLetter m5_NoLetter "LookupError.__new__"))
    (qcl_NoLetter : PySem.W.isClsIn K C_NoLetter = true)
    (qga_NoLetter : PySem.W.findIn K (.ref C_NoLetter) "__getattribute__" = some (some (.builtin "BaseException.__getattribute__")))
    (qgg_NoLetter : PySem.W.findIn K (.ref C_NoLetter) "__getattr__" = some none)
    (qsub_NoLetter : PySem.W.subIn K (.ref C_NoLetter) (.type "BaseException") = some true)
    (qhd_NoLetter : PySem.W.hasDictIn K C_NoLetter = true)
    (qca_NoLetter : PySem.W.findIn K (.ref C_NoLetter) "__class__" = some (some (.builtin "object.__class__")))
    (qcm_NoLetter : PySem.W.mroIn K C_NoLetter (.type "object") = some true)
    (qsa_NoLetter : PySem.W.findIn K (.ref C_NoLetter) "__setattr__" = some (some (.builtin "object.__setattr__")))
    (qty_NoLetter : PySem.W.typeIn K (.ref C_NoLetter) = some (.type "type"))
    (qkp_NoLetter : PySem.W.keepIn K (.ref C_NoLetter) = true)
    (qf_NoLetter_place : PySem.W.findIn K (.ref C_NoLetter) "place" = some none)
    (qi_NoLetter : PySem.W.findIn K (.ref C_NoLetter) "__init__" = some (some (.ref f_NoLetter))) (qt_NoLetter : PySem.W.typeIn K (.ref f_NoLetter) = some (.type "function")) (qk_NoLetter : PySem.W.keepIn K (.ref f_NoLetter) = true)
    (qo_NoLetter : K.lookup f_NoLetter = some ⟨oc_NoLetter, od_NoLetter, .func (PySem.W.fnOf "__init__" "NoLetter.__init__" (defArgs sti_NoLetter) (defBody sti_NoLetter) (defScope sti_NoLetter) .none kV_NoLetter dc_NoLetter pm_NoLetter an_NoLetter cd_NoLetter ct_NoLetter), sl_NoLetter⟩) (qc_NoLetter : PySem.W.codeIn K cd_NoLetter "NoLetter.__init__" = true)
    {nm_NoMap q_NoMap : Str} {N_NoMap f_NoMap : Addr} {bs_NoMap sb_NoMap : List Value} {sn_NoMap : List Str} {ab_NoMap : Bool} {col_NoMap : Option Bool} {dd_NoMap od_NoMap an_NoMap : Option Addr} {m0_NoMap m1_NoMap m2_NoMap m3_NoMap m5_NoMap : Option Value} {oc_NoMap kV_NoMap dc_NoMap pm_NoMap cd_NoMap ct_NoMap : Value} {sl_NoMap : Array (Option Value)}
    (ql_NoMap : K.lookup C_NoMap = some (excClassObj nm_NoMap q_NoMap C_NoMap N_NoMap bs_NoMap [.ref C_LoomError, .type "ValueError", .type "Exception", .type "BaseException", .type "object"] true sn_NoMap sb_NoMap ab_NoMap col_NoMap dd_NoMap m0_NoMap m1_NoMap m2_NoMap m3_NoMap m5_NoMap "ValueError.__new__"))
    (qcl_NoMap : PySem.W.isClsIn K C_NoMap = true)
    (qga_NoMap : PySem.W.findIn K (.ref C_NoMap) "__getattribute__" = some (some (.builtin "BaseException.__getattribute__")))
    (qgg_NoMap : PySem.W.findIn K (.ref C_NoMap) "__getattr__" = some none)
    (qsub_NoMap : PySem.W.subIn K (.ref C_NoMap) (.type "BaseException") = some true)
    (qhd_NoMap : PySem.W.hasDictIn K C_NoMap = true)
    (qca_NoMap : PySem.W.findIn K (.ref C_NoMap) "__class__" = some (some (.builtin "object.__class__")))
    (qcm_NoMap : PySem.W.mroIn K C_NoMap (.type "object") = some true)
    (qsa_NoMap : PySem.W.findIn K (.ref C_NoMap) "__setattr__" = some (some (.builtin "object.__setattr__")))
    (qty_NoMap : PySem.W.typeIn K (.ref C_NoMap) = some (.type "type"))
    (qkp_NoMap : PySem.W.keepIn K (.ref C_NoMap) = true)
    (qf_NoMap_word : PySem.W.findIn K (.ref C_NoMap) "word" = some none)
    (qf_NoMap_at : PySem.W.findIn K (.ref C_NoMap) "at" = some none)
    (qi_NoMap : PySem.W.findIn K (.ref C_NoMap) "__init__" = some (some (.ref f_NoMap))) (qt_NoMap : PySem.W.typeIn K (.ref f_NoMap) = some (.type "function")) (qk_NoMap : PySem.W.keepIn K (.ref f_NoMap) = true)
    (qo_NoMap : K.lookup f_NoMap = some ⟨oc_NoMap, od_NoMap, .func (PySem.W.fnOf "__init__" "NoMap.__init__" (defArgs sti_NoMap) (defBody sti_NoMap) (defScope sti_NoMap) .none kV_NoMap dc_NoMap pm_NoMap an_NoMap cd_NoMap ct_NoMap), sl_NoMap⟩) (qc_NoMap : PySem.W.codeIn K cd_NoMap "NoMap.__init__" = true)
    {nm_NoName q_NoName : Str} {N_NoName f_NoName : Addr} {bs_NoName sb_NoName : List Value} {sn_NoName : List Str} {ab_NoName : Bool} {col_NoName : Option Bool} {dd_NoName od_NoName an_NoName : Option Addr} {m0_NoName m1_NoName m2_NoName m3_NoName m5_NoName : Option Value} {oc_NoName kV_NoName dc_NoName pm_NoName cd_NoName ct_NoName : Value} {sl_NoName : Array (Option Value)}
    (ql_NoName : K.lookup C_NoName = some (excClassObj nm_NoName q_NoName C_NoName N_NoName bs_NoName [.ref C_LoomError, .type "ValueError", .type "Exception", .type "BaseException", .type "object"] true sn_NoName sb_NoName ab_NoName col_NoName dd_NoName m0_NoName m1_NoName m2_NoName m3_NoName m5_NoName "ValueError.__new__"))
    (qcl_NoName : PySem.W.isClsIn K C_NoName = true)
    (qga_NoName : PySem.W.findIn K (.ref C_NoName) "__getattribute__" = some (some (.builtin "BaseException.__getattribute__")))
    (qgg_NoName : PySem.W.findIn K (.ref C_NoName) "__getattr__" = some none)
    (qsub_NoName : PySem.W.subIn K (.ref C_NoName) (.type "BaseException") = some true)
    (qhd_NoName : PySem.W.hasDictIn K C_NoName = true)
    (qca_NoName : PySem.W.findIn K (.ref C_NoName) "__class__" = some (some (.builtin "object.__class__")))
    (qcm_NoName : PySem.W.mroIn K C_NoName (.type "object") = some true)
    (qsa_NoName : PySem.W.findIn K (.ref C_NoName) "__setattr__" = some (some (.builtin "object.__setattr__")))
    (qty_NoName : PySem.W.typeIn K (.ref C_NoName) = some (.type "type"))
    (qkp_NoName : PySem.W.keepIn K (.ref C_NoName) = true)
    (qf_NoName_name : PySem.W.findIn K (.ref C_NoName) "name" = some none)
    (qi_NoName : PySem.W.findIn K (.ref C_NoName) "__init__" = some (some (.ref f_NoName))) (qt_NoName : PySem.W.typeIn K (.ref f_NoName) = some (.type "function")) (qk_NoName : PySem.W.keepIn K (.ref f_NoName) = true)
    (qo_NoName : K.lookup f_NoName = some ⟨oc_NoName, od_NoName, .func (PySem.W.fnOf "__init__" "NoName.__init__" (defArgs sti_NoName) (defBody sti_NoName) (defScope sti_NoName) .none kV_NoName dc_NoName pm_NoName an_NoName cd_NoName ct_NoName), sl_NoName⟩) (qc_NoName : PySem.W.codeIn K cd_NoName "NoName.__init__" = true)
    (qx_NoRow : PySem.W.excIn K C_NoRow PySem.HandSPX.veTail "ValueError.__new__" = true)
    (qcl_NoRow : PySem.W.isClsIn K C_NoRow = true)
    (qga_NoRow : PySem.W.findIn K (.ref C_NoRow) "__getattribute__" = some (some (.builtin "BaseException.__getattribute__")))
    (qgg_NoRow : PySem.W.findIn K (.ref C_NoRow) "__getattr__" = some none)
    (qsub_NoRow : PySem.W.subIn K (.ref C_NoRow) (.type "BaseException") = some true)
    (qhd_NoRow : PySem.W.hasDictIn K C_NoRow = true)
    (qca_NoRow : PySem.W.findIn K (.ref C_NoRow) "__class__" = some (some (.builtin "object.__class__")))
    (qcm_NoRow : PySem.W.mroIn K C_NoRow (.type "object") = some true)
    (qsa_NoRow : PySem.W.findIn K (.ref C_NoRow) "__setattr__" = some (some (.builtin "object.__setattr__")))
    (qty_NoRow : PySem.W.typeIn K (.ref C_NoRow) = some (.type "type"))
    (qkp_NoRow : PySem.W.keepIn K (.ref C_NoRow) = true)
    {nm_NoText q_NoText : Str} {N_NoText f_NoText : Addr} {bs_NoText sb_NoText : List Value} {sn_NoText : List Str} {ab_NoText : Bool} {col_NoText : Option Bool} {dd_NoText od_NoText an_NoText : Option Addr} {m0_NoText m1_NoText m2_NoText m3_NoText m5_NoText : Option Value} {oc_NoText kV_NoText dc_NoText pm_NoText cd_NoText ct_NoText : Value} {sl_NoText : Array (Option Value)}
    (ql_NoText : K.lookup C_NoText = some (excClassObj nm_NoText q_NoText C_NoText N_NoText bs_NoText [.ref C_LoomError, .type "ValueError", .type "Exception", .type "BaseException", .type "object"] true sn_NoText sb_NoText ab_NoText col_NoText dd_NoText m0_NoText m1_NoText m2_NoText m3_NoText m5_NoText "ValueError.__new__"))
    (qcl_NoText : PySem.W.isClsIn K C_NoText = true)
    (qga_NoText : PySem.W.findIn K (.ref C_NoText) "__getattribute__" = some (some (.builtin "BaseException.__getattribute__")))
    (qgg_NoText : PySem.W.findIn K (.ref C_NoText) "__getattr__" = some none)
    (qsub_NoText : PySem.W.subIn K (.ref C_NoText) (.type "BaseException") = some true)
    (qhd_NoText : PySem.W.hasDictIn K C_NoText = true)
    (qca_NoText : PySem.W.findIn K (.ref C_NoText) "__class__" = some (some (.builtin "object.__class__")))
    (qcm_NoText : PySem.W.mroIn K C_NoText (.type "object") = some true)
    (qsa_NoText : PySem.W.findIn K (.ref C_NoText) "__setattr__" = some (some (.builtin "object.__setattr__")))
    (qty_NoText : PySem.W.typeIn K (.ref C_NoText) = some (.type "type"))
    (qkp_NoText : PySem.W.keepIn K (.ref C_NoText) = true)
    (qf_NoText_row : PySem.W.findIn K (.ref C_NoText) "row" = some none)
    (qi_NoText : PySem.W.findIn K (.ref C_NoText) "__init__" = some (some (.ref f_NoText))) (qt_NoText : PySem.W.typeIn K (.ref f_NoText) = some (.type "function")) (qk_NoText : PySem.W.keepIn K (.ref f_NoText) = true)
    (qo_NoText : K.lookup f_NoText = some ⟨oc_NoText, od_NoText, .func (PySem.W.fnOf "__init__" "NoText.__init__" (defArgs sti_NoText) (defBody sti_NoText) (defScope sti_NoText) .none kV_NoText dc_NoText pm_NoText an_NoText cd_NoText ct_NoText), sl_NoText⟩) (qc_NoText : PySem.W.codeIn K cd_NoText "NoText.__init__" = true)
    {nm_NoWay q_NoWay : Str} {N_NoWay f_NoWay : Addr} {bs_NoWay sb_NoWay : List Value} {sn_NoWay : List Str} {ab_NoWay : Bool} {col_NoWay : Option Bool} {dd_NoWay od_NoWay an_NoWay : Option Addr} {m0_NoWay m1_NoWay m2_NoWay m3_NoWay m5_NoWay : Option Value} {oc_NoWay kV_NoWay dc_NoWay pm_NoWay cd_NoWay ct_NoWay : Value} {sl_NoWay : Array (Option Value)}
    (ql_NoWay : K.lookup C_NoWay = some (excClassObj nm_NoWay q_NoWay C_NoWay N_NoWay bs_NoWay [.type "LookupError", .type "Exception", .type "BaseException", .type "object"] true sn_NoWay sb_NoWay ab_NoWay col_NoWay dd_NoWay m0_NoWay m1_NoWay m2_NoWay m3_NoWay m5_NoWay "LookupError.__new__"))
    (qcl_NoWay : PySem.W.isClsIn K C_NoWay = true)
    (qga_NoWay : PySem.W.findIn K (.ref C_NoWay) "__getattribute__" = some (some (.builtin "BaseException.__getattribute__")))
    (qgg_NoWay : PySem.W.findIn K (.ref C_NoWay) "__getattr__" = some none)
    (qsub_NoWay : PySem.W.subIn K (.ref C_NoWay) (.type "BaseException") = some true)
    (qhd_NoWay : PySem.W.hasDictIn K C_NoWay = true)
    (qca_NoWay : PySem.W.findIn K (.ref C_NoWay) "__class__" = some (some (.builtin "object.__class__")))
    (qcm_NoWay : PySem.W.mroIn K C_NoWay (.type "object") = some true)
    (qsa_NoWay : PySem.W.findIn K (.ref C_NoWay) "__setattr__" = some (some (.builtin "object.__setattr__")))
    (qty_NoWay : PySem.W.typeIn K (.ref C_NoWay) = some (.type "type"))
    (qkp_NoWay : PySem.W.keepIn K (.ref C_NoWay) = true)
    (qf_NoWay_deed : PySem.W.findIn K (.ref C_NoWay) "deed" = some none)
    (qi_NoWay : PySem.W.findIn K (.ref C_NoWay) "__init__" = some (some (.ref f_NoWay))) (qt_NoWay : PySem.W.typeIn K (.ref f_NoWay) = some (.type "function")) (qk_NoWay : PySem.W.keepIn K (.ref f_NoWay) = true)
    (qo_NoWay : K.lookup f_NoWay = some ⟨oc_NoWay, od_NoWay, .func (PySem.W.fnOf "__init__" "NoWay.__init__" (defArgs sti_NoWay) (defBody sti_NoWay) (defScope sti_NoWay) .none kV_NoWay dc_NoWay pm_NoWay an_NoWay cd_NoWay ct_NoWay), sl_NoWay⟩) (qc_NoWay : PySem.W.codeIn K cd_NoWay "NoWay.__init__" = true)
    {nm_NoYard q_NoYard : Str} {N_NoYard f_NoYard : Addr} {bs_NoYard sb_NoYard : List Value} {sn_NoYard : List Str} {ab_NoYard : Bool} {col_NoYard : Option Bool} {dd_NoYard od_NoYard an_NoYard : Option Addr} {m0_NoYard m1_NoYard m2_NoYard m3_NoYard m5_NoYard : Option Value} {oc_NoYard kV_NoYard dc_NoYard pm_NoYard cd_NoYard ct_NoYard : Value} {sl_NoYard : Array (Option Value)}
    (ql_NoYard : K.lookup C_NoYard = some (excClassObj nm_NoYard q_NoYard C_NoYard N_NoYard bs_NoYard [.ref C_LoomError, .type "ValueError", .type "Exception", .type "BaseException", .type "object"] true sn_NoYard sb_NoYard ab_NoYard col_NoYard dd_NoYard m0_NoYard m1_NoYard m2_NoYard m3_NoYard m5_NoYard "ValueError.__new__"))
    (qcl_NoYard : PySem.W.isClsIn K C_NoYard = true)
    (qga_NoYard : PySem.W.findIn K (.ref C_NoYard) "__getattribute__" = some (some (.builtin "BaseException.__getattribute__")))
    (qgg_NoYard : PySem.W.findIn K (.ref C_NoYard) "__getattr__" = some none)
    (qsub_NoYard : PySem.W.subIn K (.ref C_NoYard) (.type "BaseException") = some true)
    (qhd_NoYard : PySem.W.hasDictIn K C_NoYard = true)
    (qca_NoYard : PySem.W.findIn K (.ref C_NoYard) "__class__" = some (some (.builtin "object.__class__")))
    (qcm_NoYard : PySem.W.mroIn K C_NoYard (.type "object") = some true)
    (qsa_NoYard : PySem.W.findIn K (.ref C_NoYard) "__setattr__" = some (some (.builtin "object.__setattr__")))
    (qty_NoYard : PySem.W.typeIn K (.ref C_NoYard) = some (.type "type"))
    (qkp_NoYard : PySem.W.keepIn K (.ref C_NoYard) = true)
    (qf_NoYard_word : PySem.W.findIn K (.ref C_NoYard) "word" = some none)
    (qf_NoYard_at : PySem.W.findIn K (.ref C_NoYard) "at" = some none)
    (qi_NoYard : PySem.W.findIn K (.ref C_NoYard) "__init__" = some (some (.ref f_NoYard))) (qt_NoYard : PySem.W.typeIn K (.ref f_NoYard) = some (.type "function")) (qk_NoYard : PySem.W.keepIn K (.ref f_NoYard) = true)
    (qo_NoYard : K.lookup f_NoYard = some ⟨oc_NoYard, od_NoYard, .func (PySem.W.fnOf "__init__" "NoYard.__init__" (defArgs sti_NoYard) (defBody sti_NoYard) (defScope sti_NoYard) .none kV_NoYard dc_NoYard pm_NoYard an_NoYard cd_NoYard ct_NoYard), sl_NoYard⟩) (qc_NoYard : PySem.W.codeIn K cd_NoYard "NoYard.__init__" = true)
    {nm_NotDealt q_NotDealt : Str} {N_NotDealt f_NotDealt : Addr} {bs_NotDealt sb_NotDealt : List Value} {sn_NotDealt : List Str} {ab_NotDealt : Bool} {col_NotDealt : Option Bool} {dd_NotDealt od_NotDealt an_NotDealt : Option Addr} {m0_NotDealt m1_NotDealt m2_NotDealt m3_NotDealt m5_NotDealt : Option Value} {oc_NotDealt kV_NotDealt dc_NotDealt pm_NotDealt cd_NotDealt ct_NotDealt : Value} {sl_NotDealt : Array (Option Value)}
    (ql_NotDealt : K.lookup C_NotDealt = some (excClassObj nm_NotDealt q_NotDealt C_NotDealt N_NotDealt bs_NotDealt [.ref C_LoomError, .type "ValueError", .type "Exception", .type "BaseException", .type "object"] true sn_NotDealt sb_NotDealt ab_NotDealt col_NotDealt dd_NotDealt m0_NotDealt m1_NotDealt m2_NotDealt m3_NotDealt m5_NotDealt "ValueError.__new__"))
    (qcl_NotDealt : PySem.W.isClsIn K C_NotDealt = true)
    (qga_NotDealt : PySem.W.findIn K (.ref C_NotDealt) "__getattribute__" = some (some (.builtin "BaseException.__getattribute__")))
    (qgg_NotDealt : PySem.W.findIn K (.ref C_NotDealt) "__getattr__" = some none)
    (qsub_NotDealt : PySem.W.subIn K (.ref C_NotDealt) (.type "BaseException") = some true)
    (qhd_NotDealt : PySem.W.hasDictIn K C_NotDealt = true)
    (qca_NotDealt : PySem.W.findIn K (.ref C_NotDealt) "__class__" = some (some (.builtin "object.__class__")))
    (qcm_NotDealt : PySem.W.mroIn K C_NotDealt (.type "object") = some true)
    (qsa_NotDealt : PySem.W.findIn K (.ref C_NotDealt) "__setattr__" = some (some (.builtin "object.__setattr__")))
    (qty_NotDealt : PySem.W.typeIn K (.ref C_NotDealt) = some (.type "type"))
    (qkp_NotDealt : PySem.W.keepIn K (.ref C_NotDealt) = true)
    (qf_NotDealt_heap : PySem.W.findIn K (.ref C_NotDealt) "heap" = some none)
    (qi_NotDealt : PySem.W.findIn K (.ref C_NotDealt) "__init__" = some (some (.ref f_NotDealt))) (qt_NotDealt : PySem.W.typeIn K (.ref f_NotDealt) = some (.type "function")) (qk_NotDealt : PySem.W.keepIn K (.ref f_NotDealt) = true)
    (qo_NotDealt : K.lookup f_NotDealt = some ⟨oc_NotDealt, od_NotDealt, .func (PySem.W.fnOf "__init__" "NotDealt.__init__" (defArgs sti_NotDealt) (defBody sti_NotDealt) (defScope sti_NotDealt) .none kV_NotDealt dc_NotDealt pm_NotDealt an_NotDealt cd_NotDealt ct_NotDealt), sl_NotDealt⟩) (qc_NotDealt : PySem.W.codeIn K cd_NotDealt "NotDealt.__init__" = true)
    {nm_TooMany q_TooMany : Str} {N_TooMany f_TooMany : Addr} {bs_TooMany sb_TooMany : List Value} {sn_TooMany : List Str} {ab_TooMany : Bool} {col_TooMany : Option Bool} {dd_TooMany od_TooMany an_TooMany : Option Addr} {m0_TooMany m1_TooMany m2_TooMany m3_TooMany m5_TooMany : Option Value} {oc_TooMany kV_TooMany dc_TooMany pm_TooMany cd_TooMany ct_TooMany : Value} {sl_TooMany : Array (Option Value)}
    (ql_TooMany : K.lookup C_TooMany = some (excClassObj nm_TooMany q_TooMany C_TooMany N_TooMany bs_TooMany [.type "OverflowError", .type "ArithmeticError", .type "Exception", .type "BaseException", .type "object"] true sn_TooMany sb_TooMany ab_TooMany col_TooMany dd_TooMany m0_TooMany m1_TooMany m2_TooMany m3_TooMany m5_TooMany "OverflowError.__new__"))
    (qcl_TooMany : PySem.W.isClsIn K C_TooMany = true)
    (qga_TooMany : PySem.W.findIn K (.ref C_TooMany) "__getattribute__" = some (some (.builtin "BaseException.__getattribute__")))
    (qgg_TooMany : PySem.W.findIn K (.ref C_TooMany) "__getattr__" = some none)
    (qsub_TooMany : PySem.W.subIn K (.ref C_TooMany) (.type "BaseException") = some true)
    (qhd_TooMany : PySem.W.hasDictIn K C_TooMany = true)
    (qca_TooMany : PySem.W.findIn K (.ref C_TooMany) "__class__" = some (some (.builtin "object.__class__")))
    (qcm_TooMany : PySem.W.mroIn K C_TooMany (.type "object") = some true)
    (qsa_TooMany : PySem.W.findIn K (.ref C_TooMany) "__setattr__" = some (some (.builtin "object.__setattr__")))
    (qty_TooMany : PySem.W.typeIn K (.ref C_TooMany) = some (.type "type"))
    (qkp_TooMany : PySem.W.keepIn K (.ref C_TooMany) = true)
    (qf_TooMany_most : PySem.W.findIn K (.ref C_TooMany) "most" = some none)
    (qi_TooMany : PySem.W.findIn K (.ref C_TooMany) "__init__" = some (some (.ref f_TooMany))) (qt_TooMany : PySem.W.typeIn K (.ref f_TooMany) = some (.type "function")) (qk_TooMany : PySem.W.keepIn K (.ref f_TooMany) = true)
    (qo_TooMany : K.lookup f_TooMany = some ⟨oc_TooMany, od_TooMany, .func (PySem.W.fnOf "__init__" "TooMany.__init__" (defArgs sti_TooMany) (defBody sti_TooMany) (defScope sti_TooMany) .none kV_TooMany dc_TooMany pm_TooMany an_TooMany cd_TooMany ct_TooMany), sl_TooMany⟩) (qc_TooMany : PySem.W.codeIn K cd_TooMany "TooMany.__init__" = true)
    (qcn : PySem.W.specialIn K (.builtin "object.__class__") "__get__" = some (some (.builtin "getset_descriptor.__get__"))) (qct : PySem.W.takesIn K (.builtin "object.__class__") = some true)
    (qbr_LookupError : PySem.W.findCls K (.type "LookupError") (.type "type") "__init__" = some (.val (.builtin "LookupError.__init__")))
    (qbr_OverflowError : PySem.W.findCls K (.type "OverflowError") (.type "type") "__init__" = some (.val (.builtin "OverflowError.__init__")))
    (qb1_LoomError : PySem.W.specialIn K (.ref C_LoomError) "__getattribute__" = some (some (.builtin "type.__getattribute__"))) (qb2_LoomError : PySem.W.typeIn K (.ref C_LoomError) = some (.type "type")) (qb3_LoomError : PySem.W.readsIn K C_LoomError (.type "type") = true) (qb4_LoomError : PySem.W.findCls K (.ref C_LoomError) (.type "type") "__init__" = some (.val (.builtin "ValueError.__init__")))
    (qi1_LoomError : PySem.W.isClsIn K C_LoomError = true) (qi2_LoomError : PySem.W.typeIn K (.ref C_LoomError) = some (.type "type"))
    (qi1_NoLetter : PySem.W.isClsIn K C_NoLetter = true) (qi2_NoLetter : PySem.W.typeIn K (.ref C_NoLetter) = some (.type "type"))
    (qi1_NoMap : PySem.W.isClsIn K C_NoMap = true) (qi2_NoMap : PySem.W.typeIn K (.ref C_NoMap) = some (.type "type"))
    (qi1_NoName : PySem.W.isClsIn K C_NoName = true) (qi2_NoName : PySem.W.typeIn K (.ref C_NoName) = some (.type "type"))
    (qi1_NoRow : PySem.W.isClsIn K C_NoRow = true) (qi2_NoRow : PySem.W.typeIn K (.ref C_NoRow) = some (.type "type"))
    (qi1_NoText : PySem.W.isClsIn K C_NoText = true) (qi2_NoText : PySem.W.typeIn K (.ref C_NoText) = some (.type "type"))
    (qi1_NoWay : PySem.W.isClsIn K C_NoWay = true) (qi2_NoWay : PySem.W.typeIn K (.ref C_NoWay) = some (.type "type"))
    (qi1_NoYard : PySem.W.isClsIn K C_NoYard = true) (qi2_NoYard : PySem.W.typeIn K (.ref C_NoYard) = some (.type "type"))
    (qi1_NotDealt : PySem.W.isClsIn K C_NotDealt = true) (qi2_NotDealt : PySem.W.typeIn K (.ref C_NotDealt) = some (.type "type"))
    (qi1_TooMany : PySem.W.isClsIn K C_TooMany = true) (qi2_TooMany : PySem.W.typeIn K (.ref C_TooMany) = some (.type "type"))
    (qi3_NoLetter : PySem.W.subIn K (.ref C_NoLetter) (.ref C_NoLetter) = some true)
    (qi3_NoMap : PySem.W.subIn K (.ref C_NoMap) (.ref C_NoMap) = some true)
    (qi3_NoName : PySem.W.subIn K (.ref C_NoName) (.ref C_NoName) = some true)
    (qi3_NoRow : PySem.W.subIn K (.ref C_NoRow) (.ref C_NoRow) = some true)
    (qi3_NoText : PySem.W.subIn K (.ref C_NoText) (.ref C_NoText) = some true)
    (qi3_NoWay : PySem.W.subIn K (.ref C_NoWay) (.ref C_NoWay) = some true)
    (qi3_NoYard : PySem.W.subIn K (.ref C_NoYard) (.ref C_NoYard) = some true)
    (qi3_NotDealt : PySem.W.subIn K (.ref C_NotDealt) (.ref C_NotDealt) = some true)
    (qi3_TooMany : PySem.W.subIn K (.ref C_TooMany) (.ref C_TooMany) = some true)
    (qis_NoLetter_IndexError : PySem.W.subIn K (.ref C_NoLetter) (.type "IndexError") = some false)
    (qis_NoLetter_KeyError : PySem.W.subIn K (.ref C_NoLetter) (.type "KeyError") = some false)
    (qis_NoLetter_LookupError : PySem.W.subIn K (.ref C_NoLetter) (.type "LookupError") = some true)
    (qis_NoLetter_LoomError : PySem.W.subIn K (.ref C_NoLetter) (.ref C_LoomError) = some false)
    (qis_NoLetter_NoMap : PySem.W.subIn K (.ref C_NoLetter) (.ref C_NoMap) = some false)
    (qis_NoLetter_NoName : PySem.W.subIn K (.ref C_NoLetter) (.ref C_NoName) = some false)
    (qis_NoLetter_NoRow : PySem.W.subIn K (.ref C_NoLetter) (.ref C_NoRow) = some false)
    (qis_NoLetter_NoText : PySem.W.subIn K (.ref C_NoLetter) (.ref C_NoText) = some false)
    (qis_NoLetter_NoWay : PySem.W.subIn K (.ref C_NoLetter) (.ref C_NoWay) = some false)
    (qis_NoLetter_NoYard : PySem.W.subIn K (.ref C_NoLetter) (.ref C_NoYard) = some false)
    (qis_NoLetter_NotDealt : PySem.W.subIn K (.ref C_NoLetter) (.ref C_NotDealt) = some false)
    (qis_NoLetter_OverflowError : PySem.W.subIn K (.ref C_NoLetter) (.type "OverflowError") = some false)
    (qis_NoLetter_TooMany : PySem.W.subIn K (.ref C_NoLetter) (.ref C_TooMany) = some false)
    (qis_NoLetter_ValueError : PySem.W.subIn K (.ref C_NoLetter) (.type "ValueError") = some false)
    (qis_NoMap_IndexError : PySem.W.subIn K (.ref C_NoMap) (.type "IndexError") = some false)
    (qis_NoMap_KeyError : PySem.W.subIn K (.ref C_NoMap) (.type "KeyError") = some false)
    (qis_NoMap_LookupError : PySem.W.subIn K (.ref C_NoMap) (.type "LookupError") = some false)
    (qis_NoMap_LoomError : PySem.W.subIn K (.ref C_NoMap) (.ref C_LoomError) = some true)
    (qis_NoMap_NoLetter : PySem.W.subIn K (.ref C_NoMap) (.ref C_NoLetter) = some false)
    (qis_NoMap_NoName : PySem.W.subIn K (.ref C_NoMap) (.ref C_NoName) = some false)
    (qis_NoMap_NoRow : PySem.W.subIn K (.ref C_NoMap) (.ref C_NoRow) = some false)
    (qis_NoMap_NoText : PySem.W.subIn K (.ref C_NoMap) (.ref C_NoText) = some false)
    (qis_NoMap_NoWay : PySem.W.subIn K (.ref C_NoMap) (.ref C_NoWay) = some false)
    (qis_NoMap_NoYard : PySem.W.subIn K (.ref C_NoMap) (.ref C_NoYard) = some false)
    (qis_NoMap_NotDealt : PySem.W.subIn K (.ref C_NoMap) (.ref C_NotDealt) = some false)
    (qis_NoMap_OverflowError : PySem.W.subIn K (.ref C_NoMap) (.type "OverflowError") = some false)
    (qis_NoMap_TooMany : PySem.W.subIn K (.ref C_NoMap) (.ref C_TooMany) = some false)
    (qis_NoMap_ValueError : PySem.W.subIn K (.ref C_NoMap) (.type "ValueError") = some true)
    (qis_NoName_IndexError : PySem.W.subIn K (.ref C_NoName) (.type "IndexError") = some false)
    (qis_NoName_KeyError : PySem.W.subIn K (.ref C_NoName) (.type "KeyError") = some false)
    (qis_NoName_LookupError : PySem.W.subIn K (.ref C_NoName) (.type "LookupError") = some false)
    (qis_NoName_LoomError : PySem.W.subIn K (.ref C_NoName) (.ref C_LoomError) = some true)
    (qis_NoName_NoLetter : PySem.W.subIn K (.ref C_NoName) (.ref C_NoLetter) = some false)
    (qis_NoName_NoMap : PySem.W.subIn K (.ref C_NoName) (.ref C_NoMap) = some false)
    (qis_NoName_NoRow : PySem.W.subIn K (.ref C_NoName) (.ref C_NoRow) = some false)
    (qis_NoName_NoText : PySem.W.subIn K (.ref C_NoName) (.ref C_NoText) = some false)
    (qis_NoName_NoWay : PySem.W.subIn K (.ref C_NoName) (.ref C_NoWay) = some false)
    (qis_NoName_NoYard : PySem.W.subIn K (.ref C_NoName) (.ref C_NoYard) = some false)
    (qis_NoName_NotDealt : PySem.W.subIn K (.ref C_NoName) (.ref C_NotDealt) = some false)
    (qis_NoName_OverflowError : PySem.W.subIn K (.ref C_NoName) (.type "OverflowError") = some false)
    (qis_NoName_TooMany : PySem.W.subIn K (.ref C_NoName) (.ref C_TooMany) = some false)
    (qis_NoName_ValueError : PySem.W.subIn K (.ref C_NoName) (.type "ValueError") = some true)
    (qis_NoRow_IndexError : PySem.W.subIn K (.ref C_NoRow) (.type "IndexError") = some false)
    (qis_NoRow_KeyError : PySem.W.subIn K (.ref C_NoRow) (.type "KeyError") = some false)
    (qis_NoRow_LookupError : PySem.W.subIn K (.ref C_NoRow) (.type "LookupError") = some false)
    (qis_NoRow_LoomError : PySem.W.subIn K (.ref C_NoRow) (.ref C_LoomError) = some true)
    (qis_NoRow_NoLetter : PySem.W.subIn K (.ref C_NoRow) (.ref C_NoLetter) = some false)
    (qis_NoRow_NoMap : PySem.W.subIn K (.ref C_NoRow) (.ref C_NoMap) = some false)
    (qis_NoRow_NoName : PySem.W.subIn K (.ref C_NoRow) (.ref C_NoName) = some false)
    (qis_NoRow_NoText : PySem.W.subIn K (.ref C_NoRow) (.ref C_NoText) = some false)
    (qis_NoRow_NoWay : PySem.W.subIn K (.ref C_NoRow) (.ref C_NoWay) = some false)
    (qis_NoRow_NoYard : PySem.W.subIn K (.ref C_NoRow) (.ref C_NoYard) = some false)
    (qis_NoRow_NotDealt : PySem.W.subIn K (.ref C_NoRow) (.ref C_NotDealt) = some false)
    (qis_NoRow_OverflowError : PySem.W.subIn K (.ref C_NoRow) (.type "OverflowError") = some false)
    (qis_NoRow_TooMany : PySem.W.subIn K (.ref C_NoRow) (.ref C_TooMany) = some false)
    (qis_NoRow_ValueError : PySem.W.subIn K (.ref C_NoRow) (.type "ValueError") = some true)
    (qis_NoText_IndexError : PySem.W.subIn K (.ref C_NoText) (.type "IndexError") = some false)
    (qis_NoText_KeyError : PySem.W.subIn K (.ref C_NoText) (.type "KeyError") = some false)
    (qis_NoText_LookupError : PySem.W.subIn K (.ref C_NoText) (.type "LookupError") = some false)
    (qis_NoText_LoomError : PySem.W.subIn K (.ref C_NoText) (.ref C_LoomError) = some true)
    (qis_NoText_NoLetter : PySem.W.subIn K (.ref C_NoText) (.ref C_NoLetter) = some false)
    (qis_NoText_NoMap : PySem.W.subIn K (.ref C_NoText) (.ref C_NoMap) = some false)
    (qis_NoText_NoName : PySem.W.subIn K (.ref C_NoText) (.ref C_NoName) = some false)
    (qis_NoText_NoRow : PySem.W.subIn K (.ref C_NoText) (.ref C_NoRow) = some false)
    (qis_NoText_NoWay : PySem.W.subIn K (.ref C_NoText) (.ref C_NoWay) = some false)
    (qis_NoText_NoYard : PySem.W.subIn K (.ref C_NoText) (.ref C_NoYard) = some false)
    (qis_NoText_NotDealt : PySem.W.subIn K (.ref C_NoText) (.ref C_NotDealt) = some false)
    (qis_NoText_OverflowError : PySem.W.subIn K (.ref C_NoText) (.type "OverflowError") = some false)
    (qis_NoText_TooMany : PySem.W.subIn K (.ref C_NoText) (.ref C_TooMany) = some false)
    (qis_NoText_ValueError : PySem.W.subIn K (.ref C_NoText) (.type "ValueError") = some true)
    (qis_NoWay_IndexError : PySem.W.subIn K (.ref C_NoWay) (.type "IndexError") = some false)
    (qis_NoWay_KeyError : PySem.W.subIn K (.ref C_NoWay) (.type "KeyError") = some false)
    (qis_NoWay_LookupError : PySem.W.subIn K (.ref C_NoWay) (.type "LookupError") = some true)
    (qis_NoWay_LoomError : PySem.W.subIn K (.ref C_NoWay) (.ref C_LoomError) = some false)
    (qis_NoWay_NoLetter : PySem.W.subIn K (.ref C_NoWay) (.ref C_NoLetter) = some false)
    (qis_NoWay_NoMap : PySem.W.subIn K (.ref C_NoWay) (.ref C_NoMap) = some false)
    (qis_NoWay_NoName : PySem.W.subIn K (.ref C_NoWay) (.ref C_NoName) = some false)
    (qis_NoWay_NoRow : PySem.W.subIn K (.ref C_NoWay) (.ref C_NoRow) = some false)
    (qis_NoWay_NoText : PySem.W.subIn K (.ref C_NoWay) (.ref C_NoText) = some false)
    (qis_NoWay_NoYard : PySem.W.subIn K (.ref C_NoWay) (.ref C_NoYard) = some false)
    (qis_NoWay_NotDealt : PySem.W.subIn K (.ref C_NoWay) (.ref C_NotDealt) = some false)
    (qis_NoWay_OverflowError : PySem.W.subIn K (.ref C_NoWay) (.type "OverflowError") = some false)
    (qis_NoWay_TooMany : PySem.W.subIn K (.ref C_NoWay) (.ref C_TooMany) = some false)
    (qis_NoWay_ValueError : PySem.W.subIn K (.ref C_NoWay) (.type "ValueError") = some false)
    (qis_NoYard_IndexError : PySem.W.subIn K (.ref C_NoYard) (.type "IndexError") = some false)
    (qis_NoYard_KeyError : PySem.W.subIn K (.ref C_NoYard) (.type "KeyError") = some false)
    (qis_NoYard_LookupError : PySem.W.subIn K (.ref C_NoYard) (.type "LookupError") = some false)
    (qis_NoYard_LoomError : PySem.W.subIn K (.ref C_NoYard) (.ref C_LoomError) = some true)
    (qis_NoYard_NoLetter : PySem.W.subIn K (.ref C_NoYard) (.ref C_NoLetter) = some false)
    (qis_NoYard_NoMap : PySem.W.subIn K (.ref C_NoYard) (.ref C_NoMap) = some false)
    (qis_NoYard_NoName : PySem.W.subIn K (.ref C_NoYard) (.ref C_NoName) = some false)
    (qis_NoYard_NoRow : PySem.W.subIn K (.ref C_NoYard) (.ref C_NoRow) = some false)
    (qis_NoYard_NoText : PySem.W.subIn K (.ref C_NoYard) (.ref C_NoText) = some false)
    (qis_NoYard_NoWay : PySem.W.subIn K (.ref C_NoYard) (.ref C_NoWay) = some false)
    (qis_NoYard_NotDealt : PySem.W.subIn K (.ref C_NoYard) (.ref C_NotDealt) = some false)
    (qis_NoYard_OverflowError : PySem.W.subIn K (.ref C_NoYard) (.type "OverflowError") = some false)
    (qis_NoYard_TooMany : PySem.W.subIn K (.ref C_NoYard) (.ref C_TooMany) = some false)
    (qis_NoYard_ValueError : PySem.W.subIn K (.ref C_NoYard) (.type "ValueError") = some true)
    (qis_NotDealt_IndexError : PySem.W.subIn K (.ref C_NotDealt) (.type "IndexError") = some false)
    (qis_NotDealt_KeyError : PySem.W.subIn K (.ref C_NotDealt) (.type "KeyError") = some false)
    (qis_NotDealt_LookupError : PySem.W.subIn K (.ref C_NotDealt) (.type "LookupError") = some false)
    (qis_NotDealt_LoomError : PySem.W.subIn K (.ref C_NotDealt) (.ref C_LoomError) = some true)
    (qis_NotDealt_NoLetter : PySem.W.subIn K (.ref C_NotDealt) (.ref C_NoLetter) = some false)
    (qis_NotDealt_NoMap : PySem.W.subIn K (.ref C_NotDealt) (.ref C_NoMap) = some false)
    (qis_NotDealt_NoName : PySem.W.subIn K (.ref C_NotDealt) (.ref C_NoName) = some false)
    (qis_NotDealt_NoRow : PySem.W.subIn K (.ref C_NotDealt) (.ref C_NoRow) = some false)
    (qis_NotDealt_NoText : PySem.W.subIn K (.ref C_NotDealt) (.ref C_NoText) = some false)
    (qis_NotDealt_NoWay : PySem.W.subIn K (.ref C_NotDealt) (.ref C_NoWay) = some false)
    (qis_NotDealt_NoYard : PySem.W.subIn K (.ref C_NotDealt) (.ref C_NoYard) = some false)
    (qis_NotDealt_OverflowError : PySem.W.subIn K (.ref C_NotDealt) (.type "OverflowError") = some false)
    (qis_NotDealt_TooMany : PySem.W.subIn K (.ref C_NotDealt) (.ref C_TooMany) = some false)
    (qis_NotDealt_ValueError : PySem.W.subIn K (.ref C_NotDealt) (.type "ValueError") = some true)
    (qis_TooMany_IndexError : PySem.W.subIn K (.ref C_TooMany) (.type "IndexError") = some false)
    (qis_TooMany_KeyError : PySem.W.subIn K (.ref C_TooMany) (.type "KeyError") = some false)
    (qis_TooMany_LookupError : PySem.W.subIn K (.ref C_TooMany) (.type "LookupError") = some false)
    (qis_TooMany_LoomError : PySem.W.subIn K (.ref C_TooMany) (.ref C_LoomError) = some false)
    (qis_TooMany_NoLetter : PySem.W.subIn K (.ref C_TooMany) (.ref C_NoLetter) = some false)
    (qis_TooMany_NoMap : PySem.W.subIn K (.ref C_TooMany) (.ref C_NoMap) = some false)
    (qis_TooMany_NoName : PySem.W.subIn K (.ref C_TooMany) (.ref C_NoName) = some false)
    (qis_TooMany_NoRow : PySem.W.subIn K (.ref C_TooMany) (.ref C_NoRow) = some false)
    (qis_TooMany_NoText : PySem.W.subIn K (.ref C_TooMany) (.ref C_NoText) = some false)
    (qis_TooMany_NoWay : PySem.W.subIn K (.ref C_TooMany) (.ref C_NoWay) = some false)
    (qis_TooMany_NoYard : PySem.W.subIn K (.ref C_TooMany) (.ref C_NoYard) = some false)
    (qis_TooMany_NotDealt : PySem.W.subIn K (.ref C_TooMany) (.ref C_NotDealt) = some false)
    (qis_TooMany_OverflowError : PySem.W.subIn K (.ref C_TooMany) (.type "OverflowError") = some true)
    (qis_TooMany_ValueError : PySem.W.subIn K (.ref C_TooMany) (.type "ValueError") = some false) :
    ∃ fd : FuncData, (∀ (s : Shared) (v : Value), BindsTo s fd ⟨[v], []⟩ [("_law_script", v)]) ∧ ∀ base : Heap, K.In base → base.Ns mainGlobals mg → FnG l.prog w K mg base CX0 4 fa fd ["_law_script"] (spLaw K) := by
  have e := hfa.symm.trans (PySem.W.mg_of X G a9)
  cases e
  have F0 := fun_mk (st := st__law_flow) l0 c0 k0
  have F1 := fun_mk (st := st__law_pick) l1 c1 k1
  have F2 := fun_mk (st := st__law_word) l2 c2 k2
  have F3 := fun_mk (st := st__law_thing) l3 c3 k3
  have F4 := fun_mk (st := st__law_made) l4 c4 k4
  have F5 := fun_mk (st := st__law_fields) l5 c5 k5
  have F6 := fun_mk (st := st__law_kinds) l6 c6 k6
  have F7 := fun_mk (st := st__law_bases) l7 c7 k7
  have F8 := fun_mk (st := st__law_right) l8 c8 k8
  have F9 := fun_mk (st := st_law) l9 c9 k9
  have ga_LoomError := PySem.W.mg_of X G qa_LoomError
  have ga_NoLetter := PySem.W.mg_of X G qa_NoLetter
  have ga_NoMap := PySem.W.mg_of X G qa_NoMap
  have ga_NoName := PySem.W.mg_of X G qa_NoName
  have ga_NoRow := PySem.W.mg_of X G qa_NoRow
  have ga_NoText := PySem.W.mg_of X G qa_NoText
  have ga_NoWay := PySem.W.mg_of X G qa_NoWay
  have ga_NoYard := PySem.W.mg_of X G qa_NoYard
  have ga_NotDealt := PySem.W.mg_of X G qa_NotDealt
  have ga_TooMany := PySem.W.mg_of X G qa_TooMany
  have kl_NoLetter : XKl K C_NoLetter := ⟨qcl_NoLetter, qga_NoLetter, qgg_NoLetter, qsub_NoLetter, qhd_NoLetter, qca_NoLetter, qcn, qct, qcm_NoLetter⟩
  have kl_NoMap : XKl K C_NoMap := ⟨qcl_NoMap, qga_NoMap, qgg_NoMap, qsub_NoMap, qhd_NoMap, qca_NoMap, qcn, qct, qcm_NoMap⟩
  have kl_NoName : XKl K C_NoName := ⟨qcl_NoName, qga_NoName, qgg_NoName, qsub_NoName, qhd_NoName, qca_NoName, qcn, qct, qcm_NoName⟩
  have kl_NoRow : XKl K C_NoRow := ⟨qcl_NoRow, qga_NoRow, qgg_NoRow, qsub_NoRow, qhd_NoRow, qca_NoRow, qcn, qct, qcm_NoRow⟩
  have kl_NoText : XKl K C_NoText := ⟨qcl_NoText, qga_NoText, qgg_NoText, qsub_NoText, qhd_NoText, qca_NoText, qcn, qct, qcm_NoText⟩
  have kl_NoWay : XKl K C_NoWay := ⟨qcl_NoWay, qga_NoWay, qgg_NoWay, qsub_NoWay, qhd_NoWay, qca_NoWay, qcn, qct, qcm_NoWay⟩
  have kl_NoYard : XKl K C_NoYard := ⟨qcl_NoYard, qga_NoYard, qgg_NoYard, qsub_NoYard, qhd_NoYard, qca_NoYard, qcn, qct, qcm_NoYard⟩
  have kl_NotDealt : XKl K C_NotDealt := ⟨qcl_NotDealt, qga_NotDealt, qgg_NotDealt, qsub_NotDealt, qhd_NotDealt, qca_NotDealt, qcn, qct, qcm_NotDealt⟩
  have kl_TooMany : XKl K C_TooMany := ⟨qcl_TooMany, qga_TooMany, qgg_TooMany, qsub_TooMany, qhd_TooMany, qca_TooMany, qcn, qct, qcm_TooMany⟩
  have T : Tx K mg := ⟨PySem.W.mg_none_of X G z_IndexError, PySem.W.mg_none_of X G z_KeyError, PySem.W.mg_none_of X G z_LookupError, PySem.W.mg_none_of X G z_OverflowError, PySem.W.mg_none_of X G z_ValueError, PySem.W.mg_none_of X G z_isinstance, PySem.W.mg_none_of X G z_len, PySem.W.mg_none_of X G z_list, PySem.W.mg_none_of X G z_range, PySem.W.mg_none_of X G z_repr, PySem.W.mg_none_of X G z_tuple, (all_cons' ⟨_, ga_NoLetter, kl_NoLetter⟩ (all_cons' ⟨_, ga_NoMap, kl_NoMap⟩ (all_cons' ⟨_, ga_NoName, kl_NoName⟩ (all_cons' ⟨_, ga_NoRow, kl_NoRow⟩ (all_cons' ⟨_, ga_NoText, kl_NoText⟩ (all_cons' ⟨_, ga_NoWay, kl_NoWay⟩ (all_cons' ⟨_, ga_NoYard, kl_NoYard⟩ (all_cons' ⟨_, ga_NotDealt, kl_NotDealt⟩ (all_cons' ⟨_, ga_TooMany, kl_TooMany⟩ all_nil'))))))))), ⟨_, ga_LoomError⟩, ⟨_, ga_NoLetter⟩, ⟨_, ga_NoMap⟩, ⟨_, ga_NoName⟩, ⟨_, ga_NoRow⟩, ⟨_, ga_NoText⟩, ⟨_, ga_NoWay⟩, ⟨_, ga_NoYard⟩, ⟨_, ga_NotDealt⟩, ⟨_, ga_TooMany⟩, isK_of ga_NoLetter (.inr ⟨PySem.W.mg_none_of X G z_IndexError, by rfl, by decide⟩) (kit_blt (by decide +kernel) qis_NoLetter_IndexError), isK_of ga_NoLetter (.inr ⟨PySem.W.mg_none_of X G z_KeyError, by rfl, by decide⟩) (kit_blt (by decide +kernel) qis_NoLetter_KeyError), isK_of ga_NoLetter (.inr ⟨PySem.W.mg_none_of X G z_LookupError, by rfl, by decide⟩) (kit_blt (by decide +kernel) qis_NoLetter_LookupError), isK_of ga_NoLetter (.inl ga_LoomError) (kit_own qi1_LoomError qi2_LoomError qi3_NoLetter qis_NoLetter_LoomError), isK_of ga_NoLetter (.inl ga_NoLetter) kit_self, isK_of ga_NoLetter (.inl ga_NoMap) (kit_own qi1_NoMap qi2_NoMap qi3_NoLetter qis_NoLetter_NoMap), isK_of ga_NoLetter (.inl ga_NoName) (kit_own qi1_NoName qi2_NoName qi3_NoLetter qis_NoLetter_NoName), isK_of ga_NoLetter (.inl ga_NoRow) (kit_own qi1_NoRow qi2_NoRow qi3_NoLetter qis_NoLetter_NoRow), isK_of ga_NoLetter (.inl ga_NoText) (kit_own qi1_NoText qi2_NoText qi3_NoLetter qis_NoLetter_NoText), isK_of ga_NoLetter (.inl ga_NoWay) (kit_own qi1_NoWay qi2_NoWay qi3_NoLetter qis_NoLetter_NoWay), isK_of ga_NoLetter (.inl ga_NoYard) (kit_own qi1_NoYard qi2_NoYard qi3_NoLetter qis_NoLetter_NoYard), isK_of ga_NoLetter (.inl ga_NotDealt) (kit_own qi1_NotDealt qi2_NotDealt qi3_NoLetter qis_NoLetter_NotDealt), isK_of ga_NoLetter (.inr ⟨PySem.W.mg_none_of X G z_OverflowError, by rfl, by decide⟩) (kit_blt (by decide +kernel) qis_NoLetter_OverflowError), isK_of ga_NoLetter (.inl ga_TooMany) (kit_own qi1_TooMany qi2_TooMany qi3_NoLetter qis_NoLetter_TooMany), isK_of ga_NoLetter (.inr ⟨PySem.W.mg_none_of X G z_ValueError, by rfl, by decide⟩) (kit_blt (by decide +kernel) qis_NoLetter_ValueError), isK_of ga_NoMap (.inr ⟨PySem.W.mg_none_of X G z_IndexError, by rfl, by decide⟩) (kit_blt (by decide +kernel) qis_NoMap_IndexError), isK_of ga_NoMap (.inr ⟨PySem.W.mg_none_of X G z_KeyError, by rfl, by decide⟩) (kit_blt (by decide +kernel) qis_NoMap_KeyError), isK_of ga_NoMap (.inr ⟨PySem.W.mg_none_of X G z_LookupError, by rfl, by decide⟩) (kit_blt (by decide +kernel) qis_NoMap_LookupError), isK_of ga_NoMap (.inl ga_LoomError) (kit_own qi1_LoomError qi2_LoomError qi3_NoMap qis_NoMap_LoomError), isK_of ga_NoMap (.inl ga_NoLetter) (kit_own qi1_NoLetter qi2_NoLetter qi3_NoMap qis_NoMap_NoLetter), isK_of ga_NoMap (.inl ga_NoMap) kit_self, isK_of ga_NoMap (.inl ga_NoName) (kit_own qi1_NoName qi2_NoName qi3_NoMap qis_NoMap_NoName), isK_of ga_NoMap (.inl ga_NoRow) (kit_own qi1_NoRow qi2_NoRow qi3_NoMap qis_NoMap_NoRow), isK_of ga_NoMap (.inl ga_NoText) (kit_own qi1_NoText qi2_NoText qi3_NoMap qis_NoMap_NoText), isK_of ga_NoMap (.inl ga_NoWay) (kit_own qi1_NoWay qi2_NoWay qi3_NoMap qis_NoMap_NoWay), isK_of ga_NoMap (.inl ga_NoYard) (kit_own qi1_NoYard qi2_NoYard qi3_NoMap qis_NoMap_NoYard), isK_of ga_NoMap (.inl ga_NotDealt) (kit_own qi1_NotDealt qi2_NotDealt qi3_NoMap qis_NoMap_NotDealt), isK_of ga_NoMap (.inr ⟨PySem.W.mg_none_of X G z_OverflowError, by rfl, by decide⟩) (kit_blt (by decide +kernel) qis_NoMap_OverflowError), isK_of ga_NoMap (.inl ga_TooMany) (kit_own qi1_TooMany qi2_TooMany qi3_NoMap qis_NoMap_TooMany), isK_of ga_NoMap (.inr ⟨PySem.W.mg_none_of X G z_ValueError, by rfl, by decide⟩) (kit_blt (by decide +kernel) qis_NoMap_ValueError), isK_of ga_NoName (.inr ⟨PySem.W.mg_none_of X G z_IndexError, by rfl, by decide⟩) (kit_blt (by decide +kernel) qis_NoName_IndexError), isK_of ga_NoName (.inr ⟨PySem.W.mg_none_of X G z_KeyError, by rfl, by decide⟩) (kit_blt (by decide +kernel) qis_NoName_KeyError), isK_of ga_NoName (.inr ⟨PySem.W.mg_none_of X G z_LookupError, by rfl, by decide⟩) (kit_blt (by decide +kernel) qis_NoName_LookupError), isK_of ga_NoName (.inl ga_LoomError) (kit_own qi1_LoomError qi2_LoomError qi3_NoName qis_NoName_LoomError), isK_of ga_NoName (.inl ga_NoLetter) (kit_own qi1_NoLetter qi2_NoLetter qi3_NoName qis_NoName_NoLetter), isK_of ga_NoName (.inl ga_NoMap) (kit_own qi1_NoMap qi2_NoMap qi3_NoName qis_NoName_NoMap), isK_of ga_NoName (.inl ga_NoName) kit_self, isK_of ga_NoName (.inl ga_NoRow) (kit_own qi1_NoRow qi2_NoRow qi3_NoName qis_NoName_NoRow), isK_of ga_NoName (.inl ga_NoText) (kit_own qi1_NoText qi2_NoText qi3_NoName qis_NoName_NoText), isK_of ga_NoName (.inl ga_NoWay) (kit_own qi1_NoWay qi2_NoWay qi3_NoName qis_NoName_NoWay), isK_of ga_NoName (.inl ga_NoYard) (kit_own qi1_NoYard qi2_NoYard qi3_NoName qis_NoName_NoYard), isK_of ga_NoName (.inl ga_NotDealt) (kit_own qi1_NotDealt qi2_NotDealt qi3_NoName qis_NoName_NotDealt), isK_of ga_NoName (.inr ⟨PySem.W.mg_none_of X G z_OverflowError, by rfl, by decide⟩) (kit_blt (by decide +kernel) qis_NoName_OverflowError), isK_of ga_NoName (.inl ga_TooMany) (kit_own qi1_TooMany qi2_TooMany qi3_NoName qis_NoName_TooMany), isK_of ga_NoName (.inr ⟨PySem.W.mg_none_of X G z_ValueError, by rfl, by decide⟩) (kit_blt (by decide +kernel) qis_NoName_ValueError), isK_of ga_NoRow (.inr ⟨PySem.W.mg_none_of X G z_IndexError, by rfl, by decide⟩) (kit_blt (by decide +kernel) qis_NoRow_IndexError), isK_of ga_NoRow (.inr ⟨PySem.W.mg_none_of X G z_KeyError, by rfl, by decide⟩) (kit_blt (by decide +kernel) qis_NoRow_KeyError), isK_of ga_NoRow (.inr ⟨PySem.W.mg_none_of X G z_LookupError, by rfl, by decide⟩) (kit_blt (by decide +kernel) qis_NoRow_LookupError), isK_of ga_NoRow (.inl ga_LoomError) (kit_own qi1_LoomError qi2_LoomError qi3_NoRow qis_NoRow_LoomError), isK_of ga_NoRow (.inl ga_NoLetter) (kit_own qi1_NoLetter qi2_NoLetter qi3_NoRow qis_NoRow_NoLetter), isK_of ga_NoRow (.inl ga_NoMap) (kit_own qi1_NoMap qi2_NoMap qi3_NoRow qis_NoRow_NoMap), isK_of ga_NoRow (.inl ga_NoName) (kit_own qi1_NoName qi2_NoName qi3_NoRow qis_NoRow_NoName), isK_of ga_NoRow (.inl ga_NoRow) kit_self, isK_of ga_NoRow (.inl ga_NoText) (kit_own qi1_NoText qi2_NoText qi3_NoRow qis_NoRow_NoText), isK_of ga_NoRow (.inl ga_NoWay) (kit_own qi1_NoWay qi2_NoWay qi3_NoRow qis_NoRow_NoWay), isK_of ga_NoRow (.inl ga_NoYard) (kit_own qi1_NoYard qi2_NoYard qi3_NoRow qis_NoRow_NoYard), isK_of ga_NoRow (.inl ga_NotDealt) (kit_own qi1_NotDealt qi2_NotDealt qi3_NoRow qis_NoRow_NotDealt), isK_of ga_NoRow (.inr ⟨PySem.W.mg_none_of X G z_OverflowError, by rfl, by decide⟩) (kit_blt (by decide +kernel) qis_NoRow_OverflowError), isK_of ga_NoRow (.inl ga_TooMany) (kit_own qi1_TooMany qi2_TooMany qi3_NoRow qis_NoRow_TooMany), isK_of ga_NoRow (.inr ⟨PySem.W.mg_none_of X G z_ValueError, by rfl, by decide⟩) (kit_blt (by decide +kernel) qis_NoRow_ValueError), isK_of ga_NoText (.inr ⟨PySem.W.mg_none_of X G z_IndexError, by rfl, by decide⟩) (kit_blt (by decide +kernel) qis_NoText_IndexError), isK_of ga_NoText (.inr ⟨PySem.W.mg_none_of X G z_KeyError, by rfl, by decide⟩) (kit_blt (by decide +kernel) qis_NoText_KeyError), isK_of ga_NoText (.inr ⟨PySem.W.mg_none_of X G z_LookupError, by rfl, by decide⟩) (kit_blt (by decide +kernel) qis_NoText_LookupError), isK_of ga_NoText (.inl ga_LoomError) (kit_own qi1_LoomError qi2_LoomError qi3_NoText qis_NoText_LoomError), isK_of ga_NoText (.inl ga_NoLetter) (kit_own qi1_NoLetter qi2_NoLetter qi3_NoText qis_NoText_NoLetter), isK_of ga_NoText (.inl ga_NoMap) (kit_own qi1_NoMap qi2_NoMap qi3_NoText qis_NoText_NoMap), isK_of ga_NoText (.inl ga_NoName) (kit_own qi1_NoName qi2_NoName qi3_NoText qis_NoText_NoName), isK_of ga_NoText (.inl ga_NoRow) (kit_own qi1_NoRow qi2_NoRow qi3_NoText qis_NoText_NoRow), isK_of ga_NoText (.inl ga_NoText) kit_self, isK_of ga_NoText (.inl ga_NoWay) (kit_own qi1_NoWay qi2_NoWay qi3_NoText qis_NoText_NoWay), isK_of ga_NoText (.inl ga_NoYard) (kit_own qi1_NoYard qi2_NoYard qi3_NoText qis_NoText_NoYard), isK_of ga_NoText (.inl ga_NotDealt) (kit_own qi1_NotDealt qi2_NotDealt qi3_NoText qis_NoText_NotDealt), isK_of ga_NoText (.inr ⟨PySem.W.mg_none_of X G z_OverflowError, by rfl, by decide⟩) (kit_blt (by decide +kernel) qis_NoText_OverflowError), isK_of ga_NoText (.inl ga_TooMany) (kit_own qi1_TooMany qi2_TooMany qi3_NoText qis_NoText_TooMany), isK_of ga_NoText (.inr ⟨PySem.W.mg_none_of X G z_ValueError, by rfl, by decide⟩) (kit_blt (by decide +kernel) qis_NoText_ValueError), isK_of ga_NoWay (.inr ⟨PySem.W.mg_none_of X G z_IndexError, by rfl, by decide⟩) (kit_blt (by decide +kernel) qis_NoWay_IndexError), isK_of ga_NoWay (.inr ⟨PySem.W.mg_none_of X G z_KeyError, by rfl, by decide⟩) (kit_blt (by decide +kernel) qis_NoWay_KeyError), isK_of ga_NoWay (.inr ⟨PySem.W.mg_none_of X G z_LookupError, by rfl, by decide⟩) (kit_blt (by decide +kernel) qis_NoWay_LookupError), isK_of ga_NoWay (.inl ga_LoomError) (kit_own qi1_LoomError qi2_LoomError qi3_NoWay qis_NoWay_LoomError), isK_of ga_NoWay (.inl ga_NoLetter) (kit_own qi1_NoLetter qi2_NoLetter qi3_NoWay qis_NoWay_NoLetter), isK_of ga_NoWay (.inl ga_NoMap) (kit_own qi1_NoMap qi2_NoMap qi3_NoWay qis_NoWay_NoMap), isK_of ga_NoWay (.inl ga_NoName) (kit_own qi1_NoName qi2_NoName qi3_NoWay qis_NoWay_NoName), isK_of ga_NoWay (.inl ga_NoRow) (kit_own qi1_NoRow qi2_NoRow qi3_NoWay qis_NoWay_NoRow), isK_of ga_NoWay (.inl ga_NoText) (kit_own qi1_NoText qi2_NoText qi3_NoWay qis_NoWay_NoText), isK_of ga_NoWay (.inl ga_NoWay) kit_self, isK_of ga_NoWay (.inl ga_NoYard) (kit_own qi1_NoYard qi2_NoYard qi3_NoWay qis_NoWay_NoYard), isK_of ga_NoWay (.inl ga_NotDealt) (kit_own qi1_NotDealt qi2_NotDealt qi3_NoWay qis_NoWay_NotDealt), isK_of ga_NoWay (.inr ⟨PySem.W.mg_none_of X G z_OverflowError, by rfl, by decide⟩) (kit_blt (by decide +kernel) qis_NoWay_OverflowError), isK_of ga_NoWay (.inl ga_TooMany) (kit_own qi1_TooMany qi2_TooMany qi3_NoWay qis_NoWay_TooMany), isK_of ga_NoWay (.inr ⟨PySem.W.mg_none_of X G z_ValueError, by rfl, by decide⟩) (kit_blt (by decide +kernel) qis_NoWay_ValueError), isK_of ga_NoYard (.inr ⟨PySem.W.mg_none_of X G z_IndexError, by rfl, by decide⟩) (kit_blt (by decide +kernel) qis_NoYard_IndexError), isK_of ga_NoYard (.inr ⟨PySem.W.mg_none_of X G z_KeyError, by rfl, by decide⟩) (kit_blt (by decide +kernel) qis_NoYard_KeyError), isK_of ga_NoYard (.inr ⟨PySem.W.mg_none_of X G z_LookupError, by rfl, by decide⟩) (kit_blt (by decide +kernel) qis_NoYard_LookupError), isK_of ga_NoYard (.inl ga_LoomError) (kit_own qi1_LoomError qi2_LoomError qi3_NoYard qis_NoYard_LoomError), isK_of ga_NoYard (.inl ga_NoLetter) (kit_own qi1_NoLetter qi2_NoLetter qi3_NoYard qis_NoYard_NoLetter), isK_of ga_NoYard (.inl ga_NoMap) (kit_own qi1_NoMap qi2_NoMap qi3_NoYard qis_NoYard_NoMap), isK_of ga_NoYard (.inl ga_NoName) (kit_own qi1_NoName qi2_NoName qi3_NoYard qis_NoYard_NoName), isK_of ga_NoYard (.inl ga_NoRow) (kit_own qi1_NoRow qi2_NoRow qi3_NoYard qis_NoYard_NoRow), isK_of ga_NoYard (.inl ga_NoText) (kit_own qi1_NoText qi2_NoText qi3_NoYard qis_NoYard_NoText), isK_of ga_NoYard (.inl ga_NoWay) (kit_own qi1_NoWay qi2_NoWay qi3_NoYard qis_NoYard_NoWay), isK_of ga_NoYard (.inl ga_NoYard) kit_self, isK_of ga_NoYard (.inl ga_NotDealt) (kit_own qi1_NotDealt qi2_NotDealt qi3_NoYard qis_NoYard_NotDealt), isK_of ga_NoYard (.inr ⟨PySem.W.mg_none_of X G z_OverflowError, by rfl, by decide⟩) (kit_blt (by decide +kernel) qis_NoYard_OverflowError), isK_of ga_NoYard (.inl ga_TooMany) (kit_own qi1_TooMany qi2_TooMany qi3_NoYard qis_NoYard_TooMany), isK_of ga_NoYard (.inr ⟨PySem.W.mg_none_of X G z_ValueError, by rfl, by decide⟩) (kit_blt (by decide +kernel) qis_NoYard_ValueError), isK_of ga_NotDealt (.inr ⟨PySem.W.mg_none_of X G z_IndexError, by rfl, by decide⟩) (kit_blt (by decide +kernel) qis_NotDealt_IndexError), isK_of ga_NotDealt (.inr ⟨PySem.W.mg_none_of X G z_KeyError, by rfl, by decide⟩) (kit_blt (by decide +kernel) qis_NotDealt_KeyError), isK_of ga_NotDealt (.inr ⟨PySem.W.mg_none_of X G z_LookupError, by rfl, by decide⟩) (kit_blt (by decide +kernel) qis_NotDealt_LookupError), isK_of ga_NotDealt (.inl ga_LoomError) (kit_own qi1_LoomError qi2_LoomError qi3_NotDealt qis_NotDealt_LoomError), isK_of ga_NotDealt (.inl ga_NoLetter) (kit_own qi1_NoLetter qi2_NoLetter qi3_NotDealt qis_NotDealt_NoLetter), isK_of ga_NotDealt (.inl ga_NoMap) (kit_own qi1_NoMap qi2_NoMap qi3_NotDealt qis_NotDealt_NoMap), isK_of ga_NotDealt (.inl ga_NoName) (kit_own qi1_NoName qi2_NoName qi3_NotDealt qis_NotDealt_NoName), isK_of ga_NotDealt (.inl ga_NoRow) (kit_own qi1_NoRow qi2_NoRow qi3_NotDealt qis_NotDealt_NoRow), isK_of ga_NotDealt (.inl ga_NoText) (kit_own qi1_NoText qi2_NoText qi3_NotDealt qis_NotDealt_NoText), isK_of ga_NotDealt (.inl ga_NoWay) (kit_own qi1_NoWay qi2_NoWay qi3_NotDealt qis_NotDealt_NoWay), isK_of ga_NotDealt (.inl ga_NoYard) (kit_own qi1_NoYard qi2_NoYard qi3_NotDealt qis_NotDealt_NoYard), isK_of ga_NotDealt (.inl ga_NotDealt) kit_self, isK_of ga_NotDealt (.inr ⟨PySem.W.mg_none_of X G z_OverflowError, by rfl, by decide⟩) (kit_blt (by decide +kernel) qis_NotDealt_OverflowError), isK_of ga_NotDealt (.inl ga_TooMany) (kit_own qi1_TooMany qi2_TooMany qi3_NotDealt qis_NotDealt_TooMany), isK_of ga_NotDealt (.inr ⟨PySem.W.mg_none_of X G z_ValueError, by rfl, by decide⟩) (kit_blt (by decide +kernel) qis_NotDealt_ValueError), isK_of ga_TooMany (.inr ⟨PySem.W.mg_none_of X G z_IndexError, by rfl, by decide⟩) (kit_blt (by decide +kernel) qis_TooMany_IndexError), isK_of ga_TooMany (.inr ⟨PySem.W.mg_none_of X G z_KeyError, by rfl, by decide⟩) (kit_blt (by decide +kernel) qis_TooMany_KeyError), isK_of ga_TooMany (.inr ⟨PySem.W.mg_none_of X G z_LookupError, by rfl, by decide⟩) (kit_blt (by decide +kernel) qis_TooMany_LookupError), isK_of ga_TooMany (.inl ga_LoomError) (kit_own qi1_LoomError qi2_LoomError qi3_TooMany qis_TooMany_LoomError), isK_of ga_TooMany (.inl ga_NoLetter) (kit_own qi1_NoLetter qi2_NoLetter qi3_TooMany qis_TooMany_NoLetter), isK_of ga_TooMany (.inl ga_NoMap) (kit_own qi1_NoMap qi2_NoMap qi3_TooMany qis_TooMany_NoMap), isK_of ga_TooMany (.inl ga_NoName) (kit_own qi1_NoName qi2_NoName qi3_TooMany qis_TooMany_NoName), isK_of ga_TooMany (.inl ga_NoRow) (kit_own qi1_NoRow qi2_NoRow qi3_TooMany qis_TooMany_NoRow), isK_of ga_TooMany (.inl ga_NoText) (kit_own qi1_NoText qi2_NoText qi3_TooMany qis_TooMany_NoText), isK_of ga_TooMany (.inl ga_NoWay) (kit_own qi1_NoWay qi2_NoWay qi3_TooMany qis_TooMany_NoWay), isK_of ga_TooMany (.inl ga_NoYard) (kit_own qi1_NoYard qi2_NoYard qi3_TooMany qis_TooMany_NoYard), isK_of ga_TooMany (.inl ga_NotDealt) (kit_own qi1_NotDealt qi2_NotDealt qi3_TooMany qis_TooMany_NotDealt), isK_of ga_TooMany (.inr ⟨PySem.W.mg_none_of X G z_OverflowError, by rfl, by decide⟩) (kit_blt (by decide +kernel) qis_TooMany_OverflowError), isK_of ga_TooMany (.inl ga_TooMany) kit_self, isK_of ga_TooMany (.inr ⟨PySem.W.mg_none_of X G z_ValueError, by rfl, by decide⟩) (kit_blt (by decide +kernel) qis_TooMany_ValueError), (all_cons' (xfld_of ga_NoMap kl_NoMap qf_NoMap_at) (all_cons' (xfld_of ga_NoYard kl_NoYard qf_NoYard_at) all_nil')), (all_cons' (xfld_of ga_NoWay kl_NoWay qf_NoWay_deed) all_nil'), (all_cons' (xfld_of ga_NotDealt kl_NotDealt qf_NotDealt_heap) all_nil'), (all_cons' (xfld_of ga_TooMany kl_TooMany qf_TooMany_most) all_nil'), (all_cons' (xfld_of ga_NoName kl_NoName qf_NoName_name) all_nil'), (all_cons' (xfld_of ga_NoLetter kl_NoLetter qf_NoLetter_place) all_nil'), (all_cons' (xfld_of ga_NoText kl_NoText qf_NoText_row) all_nil'), (all_cons' (xfld_of ga_NoMap kl_NoMap qf_NoMap_word) (all_cons' (xfld_of ga_NoYard kl_NoYard qf_NoYard_word) all_nil'))⟩
  refine ⟨PySem.W.fnOf "law" "law" (defArgs st_law) (defBody st_law) (defScope st_law) .none kV9 dc9 pm9 an9 cd9 ct9, fun s v => .of_eq rfl, fun base _ _ => ?_⟩
  have lb_LoomError : LoomC K C_LoomError := ⟨qb1_LoomError, qb2_LoomError, qb3_LoomError, qb4_LoomError⟩
  have y_NoRow : XM0 K mg "NoRow" := ⟨_, _, _, _, _, PySem.F.excBase_ValueError, qx_NoRow, ga_NoRow, qkp_NoRow, qsub_NoRow, qty_NoRow⟩
  have ox_NoLetter : OexR K C_NoLetter "LookupError.__new__" [.type "LookupError", .type "Exception", .type "BaseException", .type "object"] := ⟨⟨nm_NoLetter, q_NoLetter, N_NoLetter, bs_NoLetter, _, sn_NoLetter, sb_NoLetter, ab_NoLetter, col_NoLetter, dd_NoLetter, m0_NoLetter, m1_NoLetter, m2_NoLetter, m3_NoLetter, m5_NoLetter, ql_NoLetter, ⟨[], rfl⟩⟩, qsa_NoLetter, qsub_NoLetter, qty_NoLetter, qkp_NoLetter⟩
  have Fi_NoLetter := fun_mk (st := sti_NoLetter) qo_NoLetter qc_NoLetter qk_NoLetter
  have x_NoLetter : XMkR l.prog w K mg base "NoLetter" "place" := ⟨_, _, _, _, C_NoLetter, _, _, _, root_lookup, ga_NoLetter, ox_NoLetter, qi_NoLetter, qt_NoLetter, ok_init_NoLetter Fi_NoLetter (PySem.W.mg_none_of X G z_LookupError) qbr_LookupError, (Fi_NoLetter.binds fun _ _ _ _ _ _ us hl => (match us, hl with | [_, _], _ => rfl)), qf_NoLetter_place⟩
  have ox_NoMap : OexC K C_NoMap := ⟨⟨nm_NoMap, q_NoMap, N_NoMap, bs_NoMap, _, sn_NoMap, sb_NoMap, ab_NoMap, col_NoMap, dd_NoMap, m0_NoMap, m1_NoMap, m2_NoMap, m3_NoMap, m5_NoMap, ql_NoMap, by rfl⟩, qsa_NoMap, qsub_NoMap, qty_NoMap, qkp_NoMap⟩
  have Fi_NoMap := fun_mk (st := sti_NoMap) qo_NoMap qc_NoMap qk_NoMap
  have x_NoMap : XMk l.prog w K mg base "NoMap" ["word", "at"] := xmk2 ga_NoMap ox_NoMap qi_NoMap qt_NoMap (ok_init_NoMap Fi_NoMap ga_LoomError lb_LoomError) (Fi_NoMap.binds fun _ _ _ _ _ _ us hl => (match us, hl with | [_, _, _], _ => rfl)) qf_NoMap_word qf_NoMap_at
  have ox_NoName : OexC K C_NoName := ⟨⟨nm_NoName, q_NoName, N_NoName, bs_NoName, _, sn_NoName, sb_NoName, ab_NoName, col_NoName, dd_NoName, m0_NoName, m1_NoName, m2_NoName, m3_NoName, m5_NoName, ql_NoName, by rfl⟩, qsa_NoName, qsub_NoName, qty_NoName, qkp_NoName⟩
  have Fi_NoName := fun_mk (st := sti_NoName) qo_NoName qc_NoName qk_NoName
  have x_NoName : XMk l.prog w K mg base "NoName" ["name"] := xmk1 ga_NoName ox_NoName qi_NoName qt_NoName (ok_init_NoName Fi_NoName ga_LoomError lb_LoomError) (Fi_NoName.binds fun _ _ _ _ _ _ us hl => (match us, hl with | [_, _], _ => rfl)) qf_NoName_name
  have ox_NoText : OexC K C_NoText := ⟨⟨nm_NoText, q_NoText, N_NoText, bs_NoText, _, sn_NoText, sb_NoText, ab_NoText, col_NoText, dd_NoText, m0_NoText, m1_NoText, m2_NoText, m3_NoText, m5_NoText, ql_NoText, by rfl⟩, qsa_NoText, qsub_NoText, qty_NoText, qkp_NoText⟩
  have Fi_NoText := fun_mk (st := sti_NoText) qo_NoText qc_NoText qk_NoText
  have x_NoText : XMk l.prog w K mg base "NoText" ["row"] := xmk1 ga_NoText ox_NoText qi_NoText qt_NoText (ok_init_NoText Fi_NoText ga_LoomError lb_LoomError) (Fi_NoText.binds fun _ _ _ _ _ _ us hl => (match us, hl with | [_, _], _ => rfl)) qf_NoText_row
  have ox_NoWay : OexR K C_NoWay "LookupError.__new__" [.type "LookupError", .type "Exception", .type "BaseException", .type "object"] := ⟨⟨nm_NoWay, q_NoWay, N_NoWay, bs_NoWay, _, sn_NoWay, sb_NoWay, ab_NoWay, col_NoWay, dd_NoWay, m0_NoWay, m1_NoWay, m2_NoWay, m3_NoWay, m5_NoWay, ql_NoWay, ⟨[], rfl⟩⟩, qsa_NoWay, qsub_NoWay, qty_NoWay, qkp_NoWay⟩
  have Fi_NoWay := fun_mk (st := sti_NoWay) qo_NoWay qc_NoWay qk_NoWay
  have x_NoWay : XMkR l.prog w K mg base "NoWay" "deed" := ⟨_, _, _, _, C_NoWay, _, _, _, root_lookup, ga_NoWay, ox_NoWay, qi_NoWay, qt_NoWay, ok_init_NoWay Fi_NoWay (PySem.W.mg_none_of X G z_LookupError) qbr_LookupError, (Fi_NoWay.binds fun _ _ _ _ _ _ us hl => (match us, hl with | [_, _], _ => rfl)), qf_NoWay_deed⟩
  have ox_NoYard : OexC K C_NoYard := ⟨⟨nm_NoYard, q_NoYard, N_NoYard, bs_NoYard, _, sn_NoYard, sb_NoYard, ab_NoYard, col_NoYard, dd_NoYard, m0_NoYard, m1_NoYard, m2_NoYard, m3_NoYard, m5_NoYard, ql_NoYard, by rfl⟩, qsa_NoYard, qsub_NoYard, qty_NoYard, qkp_NoYard⟩
  have Fi_NoYard := fun_mk (st := sti_NoYard) qo_NoYard qc_NoYard qk_NoYard
  have x_NoYard : XMk l.prog w K mg base "NoYard" ["word", "at"] := xmk2 ga_NoYard ox_NoYard qi_NoYard qt_NoYard (ok_init_NoYard Fi_NoYard ga_LoomError lb_LoomError) (Fi_NoYard.binds fun _ _ _ _ _ _ us hl => (match us, hl with | [_, _, _], _ => rfl)) qf_NoYard_word qf_NoYard_at
  have ox_NotDealt : OexC K C_NotDealt := ⟨⟨nm_NotDealt, q_NotDealt, N_NotDealt, bs_NotDealt, _, sn_NotDealt, sb_NotDealt, ab_NotDealt, col_NotDealt, dd_NotDealt, m0_NotDealt, m1_NotDealt, m2_NotDealt, m3_NotDealt, m5_NotDealt, ql_NotDealt, by rfl⟩, qsa_NotDealt, qsub_NotDealt, qty_NotDealt, qkp_NotDealt⟩
  have Fi_NotDealt := fun_mk (st := sti_NotDealt) qo_NotDealt qc_NotDealt qk_NotDealt
  have x_NotDealt : XMk l.prog w K mg base "NotDealt" ["heap"] := xmk1 ga_NotDealt ox_NotDealt qi_NotDealt qt_NotDealt (ok_init_NotDealt Fi_NotDealt ga_LoomError lb_LoomError) (Fi_NotDealt.binds fun _ _ _ _ _ _ us hl => (match us, hl with | [_, _], _ => rfl)) qf_NotDealt_heap
  have ox_TooMany : OexR K C_TooMany "OverflowError.__new__" [.type "OverflowError", .type "ArithmeticError", .type "Exception", .type "BaseException", .type "object"] := ⟨⟨nm_TooMany, q_TooMany, N_TooMany, bs_TooMany, _, sn_TooMany, sb_TooMany, ab_TooMany, col_TooMany, dd_TooMany, m0_TooMany, m1_TooMany, m2_TooMany, m3_TooMany, m5_TooMany, ql_TooMany, ⟨[], rfl⟩⟩, qsa_TooMany, qsub_TooMany, qty_TooMany, qkp_TooMany⟩
  have Fi_TooMany := fun_mk (st := sti_TooMany) qo_TooMany qc_TooMany qk_TooMany
  have x_TooMany : XMkR l.prog w K mg base "TooMany" "most" := ⟨_, _, _, _, C_TooMany, _, _, _, root_overflow, ga_TooMany, ox_TooMany, qi_TooMany, qt_TooMany, ok_init_TooMany Fi_TooMany (PySem.W.mg_none_of X G z_OverflowError) qbr_OverflowError, (Fi_TooMany.binds fun _ _ _ _ _ _ us hl => (match us, hl with | [_, _], _ => rfl)), qf_TooMany_most⟩
  have w_NoLetter_place : XKw l.prog w K mg base "NoLetter" ["place"] ["place"] [0] := xkwR root_lookup ga_NoLetter ox_NoLetter qi_NoLetter qt_NoLetter (ok_init_NoLetter Fi_NoLetter (PySem.W.mg_none_of X G z_LookupError) qbr_LookupError) (kbn_of (n := 1) (ks := ["place"]) (ix := [0, 1]) Fi_NoLetter fun _ _ _ _ _ _ us ws l1 l2 => (match us, ws, l1, l2 with | [_], [_], _, _ => rfl)) rfl qf_NoLetter_place
  have w_NoMap_at_word : XKw l.prog w K mg base "NoMap" ["word", "at"] ["at", "word"] [1, 0] := xkw2 ga_NoMap ox_NoMap qi_NoMap qt_NoMap (ok_init_NoMap Fi_NoMap ga_LoomError lb_LoomError) (kbn_of (n := 1) (ks := ["at", "word"]) (ix := [0, 2, 1]) Fi_NoMap fun _ _ _ _ _ _ us ws l1 l2 => (match us, ws, l1, l2 with | [_], [_, _], _, _ => rfl)) rfl qf_NoMap_word qf_NoMap_at
  have w_NoName_name : XKw l.prog w K mg base "NoName" ["name"] ["name"] [0] := xkw1 ga_NoName ox_NoName qi_NoName qt_NoName (ok_init_NoName Fi_NoName ga_LoomError lb_LoomError) (kbn_of (n := 1) (ks := ["name"]) (ix := [0, 1]) Fi_NoName fun _ _ _ _ _ _ us ws l1 l2 => (match us, ws, l1, l2 with | [_], [_], _, _ => rfl)) rfl qf_NoName_name
  have w_NoText_row : XKw l.prog w K mg base "NoText" ["row"] ["row"] [0] := xkw1 ga_NoText ox_NoText qi_NoText qt_NoText (ok_init_NoText Fi_NoText ga_LoomError lb_LoomError) (kbn_of (n := 1) (ks := ["row"]) (ix := [0, 1]) Fi_NoText fun _ _ _ _ _ _ us ws l1 l2 => (match us, ws, l1, l2 with | [_], [_], _, _ => rfl)) rfl qf_NoText_row
  have w_NoWay_deed : XKw l.prog w K mg base "NoWay" ["deed"] ["deed"] [0] := xkwR root_lookup ga_NoWay ox_NoWay qi_NoWay qt_NoWay (ok_init_NoWay Fi_NoWay (PySem.W.mg_none_of X G z_LookupError) qbr_LookupError) (kbn_of (n := 1) (ks := ["deed"]) (ix := [0, 1]) Fi_NoWay fun _ _ _ _ _ _ us ws l1 l2 => (match us, ws, l1, l2 with | [_], [_], _, _ => rfl)) rfl qf_NoWay_deed
  have w_NoYard_at_word : XKw l.prog w K mg base "NoYard" ["word", "at"] ["at", "word"] [1, 0] := xkw2 ga_NoYard ox_NoYard qi_NoYard qt_NoYard (ok_init_NoYard Fi_NoYard ga_LoomError lb_LoomError) (kbn_of (n := 1) (ks := ["at", "word"]) (ix := [0, 2, 1]) Fi_NoYard fun _ _ _ _ _ _ us ws l1 l2 => (match us, ws, l1, l2 with | [_], [_, _], _, _ => rfl)) rfl qf_NoYard_word qf_NoYard_at
  have w_NotDealt_heap : XKw l.prog w K mg base "NotDealt" ["heap"] ["heap"] [0] := xkw1 ga_NotDealt ox_NotDealt qi_NotDealt qt_NotDealt (ok_init_NotDealt Fi_NotDealt ga_LoomError lb_LoomError) (kbn_of (n := 1) (ks := ["heap"]) (ix := [0, 1]) Fi_NotDealt fun _ _ _ _ _ _ us ws l1 l2 => (match us, ws, l1, l2 with | [_], [_], _, _ => rfl)) rfl qf_NotDealt_heap
  have w_TooMany_most : XKw l.prog w K mg base "TooMany" ["most"] ["most"] [0] := xkwR root_overflow ga_TooMany ox_TooMany qi_TooMany qt_TooMany (ok_init_TooMany Fi_TooMany (PySem.W.mg_none_of X G z_OverflowError) qbr_OverflowError) (kbn_of (n := 1) (ks := ["most"]) (ix := [0, 1]) Fi_TooMany fun _ _ _ _ _ _ us ws l1 l2 => (match us, ws, l1, l2 with | [_], [_], _, _ => rfl)) rfl qf_TooMany_most
  have o__law_flow : FnOk l.prog w K mg base CX0 1 f0 _ ["_law_script"] (sp0 K mg m__law_flow) := ok__law_flow T F0
  have h__law_flow : FnD l.prog w K mg base 1 "_law_flow" ["_law_script"] m__law_flow := ⟨f0, _, PySem.W.mg_of X G a0, k0, F0.binds fun _ _ _ _ _ _ us hl => (match us, hl with | [_], _ => rfl), o__law_flow⟩
  have o__law_pick : FnOk l.prog w K mg base CX0 1 f1 _ ["_law_flow_here", "_law_many"] (sp0 K mg m__law_pick) := ok__law_pick T F1
  have h__law_pick : FnD l.prog w K mg base 1 "_law_pick" ["_law_flow_here", "_law_many"] m__law_pick := ⟨f1, _, PySem.W.mg_of X G a1, k1, F1.binds fun _ _ _ _ _ _ us hl => (match us, hl with | [_, _], _ => rfl), o__law_pick⟩
  have o__law_fields : FnOk l.prog w K mg base CX0 1 f5 _ ["_law_which", "_law_e"] (sp0 K mg m__law_fields) := ok__law_fields T F5
  have h__law_fields : FnD l.prog w K mg base 1 "_law_fields" ["_law_which", "_law_e"] m__law_fields := ⟨f5, _, PySem.W.mg_of X G a5, k5, F5.binds fun _ _ _ _ _ _ us hl => (match us, hl with | [_, _], _ => rfl), o__law_fields⟩
  have o__law_kinds : FnOk l.prog w K mg base CX0 1 f6 _ ["_law_e"] (sp0 K mg m__law_kinds) := ok__law_kinds T F6
  have h__law_kinds : FnD l.prog w K mg base 1 "_law_kinds" ["_law_e"] m__law_kinds := ⟨f6, _, PySem.W.mg_of X G a6, k6, F6.binds fun _ _ _ _ _ _ us hl => (match us, hl with | [_], _ => rfl), o__law_kinds⟩
  have o__law_bases : FnOk l.prog w K mg base CX0 1 f7 _ ["_law_e"] (sp0 K mg m__law_bases) := ok__law_bases T F7
  have h__law_bases : FnD l.prog w K mg base 1 "_law_bases" ["_law_e"] m__law_bases := ⟨f7, _, PySem.W.mg_of X G a7, k7, F7.binds fun _ _ _ _ _ _ us hl => (match us, hl with | [_], _ => rfl), o__law_bases⟩
  have o__law_word : FnOk l.prog w K mg base CX0 2 f2 _ ["_law_flow_here"] (sp0 K mg m__law_word) := ok__law_word T h__law_pick F2
  have h__law_word : FnD l.prog w K mg base 2 "_law_word" ["_law_flow_here"] m__law_word := ⟨f2, _, PySem.W.mg_of X G a2, k2, F2.binds fun _ _ _ _ _ _ us hl => (match us, hl with | [_], _ => rfl), o__law_word⟩
  have o__law_right : FnG l.prog w K mg base CX0 2 f8 _ ["_law_which", "_law_e", "_law_due"] (sp0 K mg m__law_right) := ok__law_right T h__law_bases h__law_fields h__law_kinds F8
  have h__law_right : FnDG l.prog w K mg base 2 "_law_right" ["_law_which", "_law_e", "_law_due"] m__law_right := ⟨f8, _, PySem.W.mg_of X G a8, k8, F8.binds fun _ _ _ _ _ _ us hl => (match us, hl with | [_, _, _], _ => rfl), o__law_right⟩
  have o__law_thing : FnOk l.prog w K mg base CX0 3 f3 _ ["_law_flow_here"] (sp0 K mg m__law_thing) := ok__law_thing T h__law_pick h__law_word F3
  have h__law_thing : FnD l.prog w K mg base 3 "_law_thing" ["_law_flow_here"] m__law_thing := ⟨f3, _, PySem.W.mg_of X G a3, k3, F3.binds fun _ _ _ _ _ _ us hl => (match us, hl with | [_], _ => rfl), o__law_thing⟩
  have o__law_made : FnOk l.prog w K mg base CX0 3 f4 _ ["_law_which", "_law_by_name", "_law_one", "_law_other"] (sp0 K mg m__law_made) := ok__law_made T x_NoLetter x_NoMap x_NoName x_NoText x_NoWay x_NoYard x_NotDealt x_TooMany y_NoRow w_NoLetter_place w_NoMap_at_word w_NoName_name w_NoText_row w_NoWay_deed w_NoYard_at_word w_NotDealt_heap w_TooMany_most F4
  have h__law_made : FnD l.prog w K mg base 3 "_law_made" ["_law_which", "_law_by_name", "_law_one", "_law_other"] m__law_made := ⟨f4, _, PySem.W.mg_of X G a4, k4, F4.binds fun _ _ _ _ _ _ us hl => (match us, hl with | [_, _, _, _], _ => rfl), o__law_made⟩
  have o_law : FnG l.prog w K mg base CX0 4 fa _ ["_law_script"] (sp0 K mg m_law) := ok_law T h__law_flow h__law_made h__law_pick h__law_right h__law_thing F9
  refine o_law.imp fun vs H Q E ⟨a, ns, e, hS, hl, q⟩ => ?_
  obtain ⟨m, hm⟩ := law_true ns hl
  subst e
  refine ⟨⟨[], []⟩, [], [.scr (ns.map .int)], ⟨by simp, rfl, by simp, by simp, by simp⟩, reps_one (rep_scr ?_ (reps_ints ns)), ?_⟩
  · rcases hS with hS | hS
    · exact .inl ⟨hS, by simp, by simp⟩
    · exact .inr hS
  · rw [hm]
    intro v W' H' _ _ r
    rw [r.bl']
    exact q _
end Lw
open PySem PySem.W PyProof.Rows
set_option maxHeartbeats 0 in
theorem PySem.Challenge.cw_heaploom_k01_refusals_holds : PySem.Challenge.rw_heaploom_k01_refusals.Holds := by
  w_on; o_law; k_head; (case hw => w_witness2)
  k_fill
  refine Mir.walk_ofG (l := PySem.Challenge.rw_heaploom_k01_refusals) (n := 63) (k := 4) (x := "_law_script") (CX := fun _ => L2.CX0) (sp := fun w => Lw.spLaw _) rfl (by decide) rfl ⟨⟨rfl, by decide, by decide⟩, rfl⟩ (fun w h Y => PySem.W.kIn_of Y) ?F (fun _ _ a ns hl _ hS => ⟨a, ns, rfl, hS, hl, fun _ => rfl⟩) (fun _ _ _ _ _ h => h)
  case F =>
    intro w mg fa h KX G hmg
    refine' Lw.all_mk KX G hmg ?a0 ?l0 ?c0 ?k0 ?a1 ?l1 ?c1 ?k1 ?a2 ?l2 ?c2 ?k2 ?a3 ?l3 ?c3 ?k3 ?a4 ?l4 ?c4 ?k4 ?a5 ?l5 ?c5 ?k5 ?a6 ?l6 ?c6 ?k6 ?a7 ?l7 ?c7 ?k7 ?a8 ?l8 ?c8 ?k8 ?a9 ?l9 ?c9 ?k9 ?z_IndexError ?z_KeyError ?z_LookupError ?z_OverflowError ?z_ValueError ?z_isinstance ?z_len ?z_list ?z_range ?z_repr ?z_tuple ?qa_LoomError ?qa_NoLetter ?qa_NoMap ?qa_NoName ?qa_NoRow ?qa_NoText ?qa_NoWay ?qa_NoYard ?qa_NotDealt ?qa_TooMany ?ql_NoLetter ?qcl_NoLetter ?qga_NoLetter ?qgg_NoLetter ?qsub_NoLetter ?qhd_NoLetter ?qca_NoLetter ?qcm_NoLetter ?qsa_NoLetter ?qty_NoLetter ?qkp_NoLetter ?qf_NoLetter_place ?qi_NoLetter ?qt_NoLetter ?qk_NoLetter ?qo_NoLetter ?qc_NoLetter ?ql_NoMap ?qcl_NoMap ?qga_NoMap ?qgg_NoMap ?qsub_NoMap ?qhd_NoMap ?qca_NoMap ?qcm_NoMap ?qsa_NoMap ?qty_NoMap ?qkp_NoMap ?qf_NoMap_word ?qf_NoMap_at ?qi_NoMap ?qt_NoMap ?qk_NoMap ?qo_NoMap ?qc_NoMap ?ql_NoName ?qcl_NoName ?qga_NoName ?qgg_NoName ?qsub_NoName ?qhd_NoName ?qca_NoName ?qcm_NoName ?qsa_NoName ?qty_NoName ?qkp_NoName ?qf_NoName_name ?qi_NoName ?qt_NoName ?qk_NoName ?qo_NoName ?qc_NoName ?qx_NoRow ?qcl_NoRow ?qga_NoRow ?qgg_NoRow ?qsub_NoRow ?qhd_NoRow ?qca_NoRow ?qcm_NoRow ?qsa_NoRow ?qty_NoRow ?qkp_NoRow ?ql_NoText ?qcl_NoText ?qga_NoText ?qgg_NoText ?qsub_NoText ?qhd_NoText ?qca_NoText ?qcm_NoText ?qsa_NoText ?qty_NoText ?qkp_NoText ?qf_NoText_row ?qi_NoText ?qt_NoText ?qk_NoText ?qo_NoText ?qc_NoText ?ql_NoWay ?qcl_NoWay ?qga_NoWay ?qgg_NoWay ?qsub_NoWay ?qhd_NoWay ?qca_NoWay ?qcm_NoWay ?qsa_NoWay ?qty_NoWay ?qkp_NoWay ?qf_NoWay_deed ?qi_NoWay ?qt_NoWay ?qk_NoWay ?qo_NoWay ?qc_NoWay ?ql_NoYard ?qcl_NoYard ?qga_NoYard ?qgg_NoYard ?qsub_NoYard ?qhd_NoYard ?qca_NoYard ?qcm_NoYard ?qsa_NoYard ?qty_NoYard ?qkp_NoYard ?qf_NoYard_word ?qf_NoYard_at ?qi_NoYard ?qt_NoYard ?qk_NoYard ?qo_NoYard ?qc_NoYard ?ql_NotDealt ?qcl_NotDealt ?qga_NotDealt ?qgg_NotDealt ?qsub_NotDealt ?qhd_NotDealt ?qca_NotDealt ?qcm_NotDealt ?qsa_NotDealt ?qty_NotDealt ?qkp_NotDealt ?qf_NotDealt_heap ?qi_NotDealt ?qt_NotDealt ?qk_NotDealt ?qo_NotDealt ?qc_NotDealt ?ql_TooMany ?qcl_TooMany ?qga_TooMany ?qgg_TooMany ?qsub_TooMany ?qhd_TooMany ?qca_TooMany ?qcm_TooMany ?qsa_TooMany ?qty_TooMany ?qkp_TooMany ?qf_TooMany_most ?qi_TooMany ?qt_TooMany ?qk_TooMany ?qo_TooMany ?qc_TooMany ?qcn ?qct ?qbr_LookupError ?qbr_OverflowError ?qb1_LoomError ?qb2_LoomError ?qb3_LoomError ?qb4_LoomError ?qi1_LoomError ?qi2_LoomError ?qi1_NoLetter ?qi2_NoLetter ?qi1_NoMap ?qi2_NoMap ?qi1_NoName ?qi2_NoName ?qi1_NoRow ?qi2_NoRow ?qi1_NoText ?qi2_NoText ?qi1_NoWay ?qi2_NoWay ?qi1_NoYard ?qi2_NoYard ?qi1_NotDealt ?qi2_NotDealt ?qi1_TooMany ?qi2_TooMany ?qi3_NoLetter ?qi3_NoMap ?qi3_NoName ?qi3_NoRow ?qi3_NoText ?qi3_NoWay ?qi3_NoYard ?qi3_NotDealt ?qi3_TooMany ?qis_NoLetter_IndexError ?qis_NoLetter_KeyError ?qis_NoLetter_LookupError ?qis_NoLetter_LoomError ?qis_NoLetter_NoMap ?qis_NoLetter_NoName ?qis_NoLetter_NoRow ?qis_NoLetter_NoText ?qis_NoLetter_NoWay ?qis_NoLetter_NoYard ?qis_NoLetter_NotDealt ?qis_NoLetter_OverflowError ?qis_NoLetter_TooMany ?qis_NoLetter_ValueError ?qis_NoMap_IndexError ?qis_NoMap_KeyError ?qis_NoMap_LookupError ?qis_NoMap_LoomError ?qis_NoMap_NoLetter ?qis_NoMap_NoName ?qis_NoMap_NoRow ?qis_NoMap_NoText ?qis_NoMap_NoWay ?qis_NoMap_NoYard ?qis_NoMap_NotDealt ?qis_NoMap_OverflowError ?qis_NoMap_TooMany ?qis_NoMap_ValueError ?qis_NoName_IndexError ?qis_NoName_KeyError ?qis_NoName_LookupError ?qis_NoName_LoomError ?qis_NoName_NoLetter ?qis_NoName_NoMap ?qis_NoName_NoRow ?qis_NoName_NoText ?qis_NoName_NoWay ?qis_NoName_NoYard ?qis_NoName_NotDealt ?qis_NoName_OverflowError ?qis_NoName_TooMany ?qis_NoName_ValueError ?qis_NoRow_IndexError ?qis_NoRow_KeyError ?qis_NoRow_LookupError ?qis_NoRow_LoomError ?qis_NoRow_NoLetter ?qis_NoRow_NoMap ?qis_NoRow_NoName ?qis_NoRow_NoText ?qis_NoRow_NoWay ?qis_NoRow_NoYard ?qis_NoRow_NotDealt ?qis_NoRow_OverflowError ?qis_NoRow_TooMany ?qis_NoRow_ValueError ?qis_NoText_IndexError ?qis_NoText_KeyError ?qis_NoText_LookupError ?qis_NoText_LoomError ?qis_NoText_NoLetter ?qis_NoText_NoMap ?qis_NoText_NoName ?qis_NoText_NoRow ?qis_NoText_NoWay ?qis_NoText_NoYard ?qis_NoText_NotDealt ?qis_NoText_OverflowError ?qis_NoText_TooMany ?qis_NoText_ValueError ?qis_NoWay_IndexError ?qis_NoWay_KeyError ?qis_NoWay_LookupError ?qis_NoWay_LoomError ?qis_NoWay_NoLetter ?qis_NoWay_NoMap ?qis_NoWay_NoName ?qis_NoWay_NoRow ?qis_NoWay_NoText ?qis_NoWay_NoYard ?qis_NoWay_NotDealt ?qis_NoWay_OverflowError ?qis_NoWay_TooMany ?qis_NoWay_ValueError ?qis_NoYard_IndexError ?qis_NoYard_KeyError ?qis_NoYard_LookupError ?qis_NoYard_LoomError ?qis_NoYard_NoLetter ?qis_NoYard_NoMap ?qis_NoYard_NoName ?qis_NoYard_NoRow ?qis_NoYard_NoText ?qis_NoYard_NoWay ?qis_NoYard_NotDealt ?qis_NoYard_OverflowError ?qis_NoYard_TooMany ?qis_NoYard_ValueError ?qis_NotDealt_IndexError ?qis_NotDealt_KeyError ?qis_NotDealt_LookupError ?qis_NotDealt_LoomError ?qis_NotDealt_NoLetter ?qis_NotDealt_NoMap ?qis_NotDealt_NoName ?qis_NotDealt_NoRow ?qis_NotDealt_NoText ?qis_NotDealt_NoWay ?qis_NotDealt_NoYard ?qis_NotDealt_OverflowError ?qis_NotDealt_TooMany ?qis_NotDealt_ValueError ?qis_TooMany_IndexError ?qis_TooMany_KeyError ?qis_TooMany_LookupError ?qis_TooMany_LoomError ?qis_TooMany_NoLetter ?qis_TooMany_NoMap ?qis_TooMany_NoName ?qis_TooMany_NoRow ?qis_TooMany_NoText ?qis_TooMany_NoWay ?qis_TooMany_NoYard ?qis_TooMany_NotDealt ?qis_TooMany_OverflowError ?qis_TooMany_ValueError
    (case a0 => k_is); (case l0 => k_is); (case c0 => k_is); (case k0 => k_is); (case a1 => k_is); (case l1 => k_is); (case c1 => k_is); (case k1 => k_is); (case a2 => k_is); (case l2 => k_is); (case c2 => k_is); (case k2 => k_is); (case a3 => k_is); (case l3 => k_is); (case c3 => k_is); (case k3 => k_is); (case a4 => k_is); (case l4 => k_is); (case c4 => k_is); (case k4 => k_is); (case a5 => k_is); (case l5 => k_is); (case c5 => k_is); (case k5 => k_is); (case a6 => k_is); (case l6 => k_is); (case c6 => k_is); (case k6 => k_is); (case a7 => k_is); (case l7 => k_is); (case c7 => k_is); (case k7 => k_is); (case a8 => k_is); (case l8 => k_is); (case c8 => k_is); (case k8 => k_is); (case a9 => k_is); (case l9 => k_is); (case c9 => k_is); (case k9 => k_is); (case z_IndexError => k_is); (case z_KeyError => k_is); (case z_LookupError => k_is); (case z_OverflowError => k_is); (case z_ValueError => k_is); (case z_isinstance => k_is); (case z_len => k_is); (case z_list => k_is); (case z_range => k_is); (case z_repr => k_is); (case z_tuple => k_is); (case qa_LoomError => k_is); (case qa_NoLetter => k_is); (case qa_NoMap => k_is); (case qa_NoName => k_is); (case qa_NoRow => k_is); (case qa_NoText => k_is); (case qa_NoWay => k_is); (case qa_NoYard => k_is); (case qa_NotDealt => k_is); (case qa_TooMany => k_is); (case ql_NoLetter => k_is); (case qcl_NoLetter => k_is); (case qga_NoLetter => k_is); (case qgg_NoLetter => k_is); (case qsub_NoLetter => k_is); (case qhd_NoLetter => k_is); (case qca_NoLetter => k_is); (case qcm_NoLetter => k_is); (case qsa_NoLetter => k_is); (case qty_NoLetter => k_is); (case qkp_NoLetter => k_is); (case qf_NoLetter_place => k_is); (case qi_NoLetter => k_is); (case qt_NoLetter => k_is); (case qk_NoLetter => k_is); (case qo_NoLetter => k_is); (case qc_NoLetter => k_is); (case ql_NoMap => k_is); (case qcl_NoMap => k_is); (case qga_NoMap => k_is); (case qgg_NoMap => k_is); (case qsub_NoMap => k_is); (case qhd_NoMap => k_is); (case qca_NoMap => k_is); (case qcm_NoMap => k_is); (case qsa_NoMap => k_is); (case qty_NoMap => k_is); (case qkp_NoMap => k_is); (case qf_NoMap_word => k_is); (case qf_NoMap_at => k_is); (case qi_NoMap => k_is); (case qt_NoMap => k_is); (case qk_NoMap => k_is); (case qo_NoMap => k_is); (case qc_NoMap => k_is); (case ql_NoName => k_is); (case qcl_NoName => k_is); (case qga_NoName => k_is); (case qgg_NoName => k_is); (case qsub_NoName => k_is); (case qhd_NoName => k_is); (case qca_NoName => k_is); (case qcm_NoName => k_is); (case qsa_NoName => k_is); (case qty_NoName => k_is); (case qkp_NoName => k_is); (case qf_NoName_name => k_is); (case qi_NoName => k_is); (case qt_NoName => k_is); (case qk_NoName => k_is); (case qo_NoName => k_is); (case qc_NoName => k_is); (case qx_NoRow => k_exc); (case qcl_NoRow => k_is); (case qga_NoRow => k_is); (case qgg_NoRow => k_is); (case qsub_NoRow => k_is); (case qhd_NoRow => k_is); (case qca_NoRow => k_is); (case qcm_NoRow => k_is); (case qsa_NoRow => k_is); (case qty_NoRow => k_is); (case qkp_NoRow => k_is); (case ql_NoText => k_is); (case qcl_NoText => k_is); (case qga_NoText => k_is); (case qgg_NoText => k_is); (case qsub_NoText => k_is); (case qhd_NoText => k_is); (case qca_NoText => k_is); (case qcm_NoText => k_is); (case qsa_NoText => k_is); (case qty_NoText => k_is); (case qkp_NoText => k_is); (case qf_NoText_row => k_is); (case qi_NoText => k_is); (case qt_NoText => k_is); (case qk_NoText => k_is); (case qo_NoText => k_is); (case qc_NoText => k_is); (case ql_NoWay => k_is); (case qcl_NoWay => k_is); (case qga_NoWay => k_is); (case qgg_NoWay => k_is); (case qsub_NoWay => k_is); (case qhd_NoWay => k_is); (case qca_NoWay => k_is); (case qcm_NoWay => k_is); (case qsa_NoWay => k_is); (case qty_NoWay => k_is); (case qkp_NoWay => k_is); (case qf_NoWay_deed => k_is); (case qi_NoWay => k_is); (case qt_NoWay => k_is); (case qk_NoWay => k_is); (case qo_NoWay => k_is); (case qc_NoWay => k_is); (case ql_NoYard => k_is); (case qcl_NoYard => k_is); (case qga_NoYard => k_is); (case qgg_NoYard => k_is); (case qsub_NoYard => k_is); (case qhd_NoYard => k_is); (case qca_NoYard => k_is); (case qcm_NoYard => k_is); (case qsa_NoYard => k_is); (case qty_NoYard => k_is); (case qkp_NoYard => k_is); (case qf_NoYard_word => k_is); (case qf_NoYard_at => k_is); (case qi_NoYard => k_is); (case qt_NoYard => k_is); (case qk_NoYard => k_is); (case qo_NoYard => k_is); (case qc_NoYard => k_is); (case ql_NotDealt => k_is); (case qcl_NotDealt => k_is); (case qga_NotDealt => k_is); (case qgg_NotDealt => k_is); (case qsub_NotDealt => k_is); (case qhd_NotDealt => k_is); (case qca_NotDealt => k_is); (case qcm_NotDealt => k_is); (case qsa_NotDealt => k_is); (case qty_NotDealt => k_is); (case qkp_NotDealt => k_is); (case qf_NotDealt_heap => k_is); (case qi_NotDealt => k_is); (case qt_NotDealt => k_is); (case qk_NotDealt => k_is); (case qo_NotDealt => k_is); (case qc_NotDealt => k_is); (case ql_TooMany => k_is); (case qcl_TooMany => k_is); (case qga_TooMany => k_is); (case qgg_TooMany => k_is); (case qsub_TooMany => k_is); (case qhd_TooMany => k_is); (case qca_TooMany => k_is); (case qcm_TooMany => k_is); (case qsa_TooMany => k_is); (case qty_TooMany => k_is); (case qkp_TooMany => k_is); (case qf_TooMany_most => k_is); (case qi_TooMany => k_is); (case qt_TooMany => k_is); (case qk_TooMany => k_is); (case qo_TooMany => k_is); (case qc_TooMany => k_is); (case qcn => k_is); (case qct => k_is); (case qbr_LookupError => k_is); (case qbr_OverflowError => k_is); (case qb1_LoomError => k_is); (case qb2_LoomError => k_is); (case qb3_LoomError => k_is); (case qb4_LoomError => k_is); (case qi1_LoomError => k_is); (case qi2_LoomError => k_is); (case qi1_NoLetter => k_is); (case qi2_NoLetter => k_is); (case qi1_NoMap => k_is); (case qi2_NoMap => k_is); (case qi1_NoName => k_is); (case qi2_NoName => k_is); (case qi1_NoRow => k_is); (case qi2_NoRow => k_is); (case qi1_NoText => k_is); (case qi2_NoText => k_is); (case qi1_NoWay => k_is); (case qi2_NoWay => k_is); (case qi1_NoYard => k_is); (case qi2_NoYard => k_is); (case qi1_NotDealt => k_is); (case qi2_NotDealt => k_is); (case qi1_TooMany => k_is); (case qi2_TooMany => k_is); (case qi3_NoLetter => k_is); (case qi3_NoMap => k_is); (case qi3_NoName => k_is); (case qi3_NoRow => k_is); (case qi3_NoText => k_is); (case qi3_NoWay => k_is); (case qi3_NoYard => k_is); (case qi3_NotDealt => k_is); (case qi3_TooMany => k_is); (case qis_NoLetter_IndexError => k_is); (case qis_NoLetter_KeyError => k_is); (case qis_NoLetter_LookupError => k_is); (case qis_NoLetter_LoomError => k_is); (case qis_NoLetter_NoMap => k_is); (case qis_NoLetter_NoName => k_is); (case qis_NoLetter_NoRow => k_is); (case qis_NoLetter_NoText => k_is); (case qis_NoLetter_NoWay => k_is); (case qis_NoLetter_NoYard => k_is); (case qis_NoLetter_NotDealt => k_is); (case qis_NoLetter_OverflowError => k_is); (case qis_NoLetter_TooMany => k_is); (case qis_NoLetter_ValueError => k_is); (case qis_NoMap_IndexError => k_is); (case qis_NoMap_KeyError => k_is); (case qis_NoMap_LookupError => k_is); (case qis_NoMap_LoomError => k_is); (case qis_NoMap_NoLetter => k_is); (case qis_NoMap_NoName => k_is); (case qis_NoMap_NoRow => k_is); (case qis_NoMap_NoText => k_is); (case qis_NoMap_NoWay => k_is); (case qis_NoMap_NoYard => k_is); (case qis_NoMap_NotDealt => k_is); (case qis_NoMap_OverflowError => k_is); (case qis_NoMap_TooMany => k_is); (case qis_NoMap_ValueError => k_is); (case qis_NoName_IndexError => k_is); (case qis_NoName_KeyError => k_is); (case qis_NoName_LookupError => k_is); (case qis_NoName_LoomError => k_is); (case qis_NoName_NoLetter => k_is); (case qis_NoName_NoMap => k_is); (case qis_NoName_NoRow => k_is); (case qis_NoName_NoText => k_is); (case qis_NoName_NoWay => k_is); (case qis_NoName_NoYard => k_is); (case qis_NoName_NotDealt => k_is); (case qis_NoName_OverflowError => k_is); (case qis_NoName_TooMany => k_is); (case qis_NoName_ValueError => k_is); (case qis_NoRow_IndexError => k_is); (case qis_NoRow_KeyError => k_is); (case qis_NoRow_LookupError => k_is); (case qis_NoRow_LoomError => k_is); (case qis_NoRow_NoLetter => k_is); (case qis_NoRow_NoMap => k_is); (case qis_NoRow_NoName => k_is); (case qis_NoRow_NoText => k_is); (case qis_NoRow_NoWay => k_is); (case qis_NoRow_NoYard => k_is); (case qis_NoRow_NotDealt => k_is); (case qis_NoRow_OverflowError => k_is); (case qis_NoRow_TooMany => k_is); (case qis_NoRow_ValueError => k_is); (case qis_NoText_IndexError => k_is); (case qis_NoText_KeyError => k_is); (case qis_NoText_LookupError => k_is); (case qis_NoText_LoomError => k_is); (case qis_NoText_NoLetter => k_is); (case qis_NoText_NoMap => k_is); (case qis_NoText_NoName => k_is); (case qis_NoText_NoRow => k_is); (case qis_NoText_NoWay => k_is); (case qis_NoText_NoYard => k_is); (case qis_NoText_NotDealt => k_is); (case qis_NoText_OverflowError => k_is); (case qis_NoText_TooMany => k_is); (case qis_NoText_ValueError => k_is); (case qis_NoWay_IndexError => k_is); (case qis_NoWay_KeyError => k_is); (case qis_NoWay_LookupError => k_is); (case qis_NoWay_LoomError => k_is); (case qis_NoWay_NoLetter => k_is); (case qis_NoWay_NoMap => k_is); (case qis_NoWay_NoName => k_is); (case qis_NoWay_NoRow => k_is); (case qis_NoWay_NoText => k_is); (case qis_NoWay_NoYard => k_is); (case qis_NoWay_NotDealt => k_is); (case qis_NoWay_OverflowError => k_is); (case qis_NoWay_TooMany => k_is); (case qis_NoWay_ValueError => k_is); (case qis_NoYard_IndexError => k_is); (case qis_NoYard_KeyError => k_is); (case qis_NoYard_LookupError => k_is); (case qis_NoYard_LoomError => k_is); (case qis_NoYard_NoLetter => k_is); (case qis_NoYard_NoMap => k_is); (case qis_NoYard_NoName => k_is); (case qis_NoYard_NoRow => k_is); (case qis_NoYard_NoText => k_is); (case qis_NoYard_NoWay => k_is); (case qis_NoYard_NotDealt => k_is); (case qis_NoYard_OverflowError => k_is); (case qis_NoYard_TooMany => k_is); (case qis_NoYard_ValueError => k_is); (case qis_NotDealt_IndexError => k_is); (case qis_NotDealt_KeyError => k_is); (case qis_NotDealt_LookupError => k_is); (case qis_NotDealt_LoomError => k_is); (case qis_NotDealt_NoLetter => k_is); (case qis_NotDealt_NoMap => k_is); (case qis_NotDealt_NoName => k_is); (case qis_NotDealt_NoRow => k_is); (case qis_NotDealt_NoText => k_is); (case qis_NotDealt_NoWay => k_is); (case qis_NotDealt_NoYard => k_is); (case qis_NotDealt_OverflowError => k_is); (case qis_NotDealt_TooMany => k_is); (case qis_NotDealt_ValueError => k_is); (case qis_TooMany_IndexError => k_is); (case qis_TooMany_KeyError => k_is); (case qis_TooMany_LookupError => k_is); (case qis_TooMany_LoomError => k_is); (case qis_TooMany_NoLetter => k_is); (case qis_TooMany_NoMap => k_is); (case qis_TooMany_NoName => k_is); (case qis_TooMany_NoRow => k_is); (case qis_TooMany_NoText => k_is); (case qis_TooMany_NoWay => k_is); (case qis_TooMany_NoYard => k_is); (case qis_TooMany_NotDealt => k_is); (case qis_TooMany_OverflowError => k_is); (case qis_TooMany_ValueError => k_is)
