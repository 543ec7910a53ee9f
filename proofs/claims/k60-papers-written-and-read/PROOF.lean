import PyProof.Rows.All
import Wide.All
import OpenK.AllK
import Wide.FinOn
import HandS.ForMost
import HandS.Wide
import HandS.Exc
import HandS.TupAny
import HandS.IsInst
import HandS.Zip
import HandS.Rev
import HandS.RevRange
import HandS.Codes
import HandS.Deep
import HandS.Strs
import HandS.Defaults
import HandS.Replace
import HandS.Style
import HandS.Flt
import HandS.FStr
import HandS.Text
import PyProof.StrOps2
import PyProof.FitsStr
import KE.GoesNew
import KE.GoesMore
import KE.GoesEnumKw
import HandS.TupMul
import HandS.Flow
import KE.IntTextLaws
import HandS.TupLe
import KE.KDictDisplayH
import HandS.SetFor
import HandS.WideBits
import HandS.SetKeys
import HandS.SortKw
import PyProof.MinMaxWalk
import PyProof.WalkInts
import HandS.Walk
import HandS.Set
import KE.KDictPairs
import HandS.WordsDict
import HandS.TryMany
import HandS.ExcInit
import HandS.ExcIs
import KE.KExcIs
import HandS.WordsExc
import HandS.ExcField
import HandS.Conv
import KE.KIsAll
import HandS.RaiseMore
import PyProof.ListStr
import PySem.Challenge.RW_heaploom_k60_papers_written_and_read
set_option Elab.async false
set_option linter.all false
set_option maxRecDepth 100000
set_option maxHeartbeats 4000000
set_option autoImplicit false
/-! Mir: plain data, a memory of cells, mirrors of Python code, and the rules that tie them to the hand layer. -/
namespace Mir
open PySem PySem.Spec PyProof.Rows L2
abbrev SL := L2.St

/-- an equation that is not told to be one by reckoning -/
theorem nr {α : Sort _} {a b : α} (h : a = b) : a = b := h
/-! ### data -/
inductive D where
  | non | bl (b : Bool) | int (i : Int) | str (x : Str) | tup (ds : List D) | lst (ds : List D) | scr (ds : List D) | ref (i : Nat)
inductive Cell where
  | lst (ds : List D) | dK (kvs : List (Key × D)) | dT (kvs : List (List Int × D)) | ins (c : Str) (fs : List (Str × D)) | dKz (kvs : List (Key × D)) | dTz (kvs : List (List Int × D)) | exc (c : Str) (fs : List (Str × D))
abbrev Mem := List Cell
abbrev Env' := List (Option D)
structure Exn where
  cls : Str
  fs : List (Str × D)
inductive R (α : Type) where
  | ok (a : α) (m : Mem) | exc (x : Exn) (m : Mem) | stk
def R.bind {α β : Type} (r : R α) (f : α → Mem → R β) : R β := match r with
  | .ok a m => f a m
  | .exc x m => .exc x m
  | .stk => .stk
@[simp] theorem bind_ok {α β : Type} (a : α) (m : Mem) (f : α → Mem → R β) : (R.ok a m).bind f = f a m := nr rfl
@[simp] theorem bind_exc {α β : Type} (x : Exn) (m : Mem) (f : α → Mem → R β) : (R.exc x m : R α).bind f = .exc x m := nr rfl
@[simp] theorem bind_stk {α β : Type} (f : α → Mem → R β) : (R.stk : R α).bind f = .stk := nr rfl

/-- the world: the cells' addresses; scratch addresses -/
structure Wd where
  i : List Addr
  z : List Addr

/-- an immediate list -/
def LIm (K : PySem.W.Frag) (W : Wd) (H : Hp) (a : Addr) (xs : List V) : Prop :=
  (Rd H a (.lst xs) ∧ a ∉ W.i ∧ a ∉ W.z) ∨
    ∃ (o : Obj) (its : Array Value) (n : Nat), K.lookup a = some o ∧ o.cls = .type "list" ∧ o.dict = none ∧ o.data = .seq its n ∧ its.size ≤ sizeLine ∧ Vals xs its.toList
theorem LIm.sq {K : PySem.W.Frag} {W : Wd} {H : Hp} {a : Addr} {xs : List V} (h : LIm K W H a xs) : SqL K H a xs := by
  rcases h with h | h
  · exact .inl h.1
  · exact .inr h

/-- a tuple that is read; it has no dict of its own -/
def SqF (K : PySem.W.Frag) (H : Hp) (a : Addr) (xs : List V) : Prop :=
  (∃ o, H a = some (.frz o (.tup xs)) ∧ o.dict = none ∧ o.cls = .type "tuple") ∨
    ∃ (o : Obj) (its : Array Value) (n : Nat), K.lookup a = some o ∧ o.cls = .type "tuple" ∧ o.dict = none ∧ o.data = .seq its n ∧ its.size ≤ sizeLine ∧ Vals xs its.toList
theorem SqF.t {K : PySem.W.Frag} {H : Hp} {a : Addr} {xs : List V} (h : SqF K H a xs) : SqT K H a xs := by
  rcases h with ⟨o, h, _⟩ | ⟨o, its, n, h1, h2, _, h3⟩
  · exact .inl (.inr ⟨o, h⟩)
  · exact .inr ⟨o, its, n, h1, h2, h3⟩

mutual
def Rep (K : PySem.W.Frag) (W : Wd) (H : Hp) : D → V → Prop
  | .non, v => v = .non
  | .bl b, v => v = .bl b
  | .int i, v => v = .int i
  | .str x, v => v = .str x
  | .tup ds, v => ∃ a vs, v = .ref a ∧ SqF K H a vs ∧ Reps K W H ds vs
  | .lst ds, v => ∃ a vs, v = .ref a ∧ (H a = some (.lst vs) ∧ a ∉ W.i ∧ a ∉ W.z) ∧ Reps K W H ds vs
  | .scr ds, v => ∃ a vs, v = .ref a ∧ LIm K W H a vs ∧ Reps K W H ds vs
  | .ref i, v => ∃ a, v = .ref a ∧ W.i[i]? = some a
def Reps (K : PySem.W.Frag) (W : Wd) (H : Hp) : List D → List V → Prop
  | [], vs => vs = []
  | d :: ds, vs => ∃ v r, vs = v :: r ∧ Rep K W H d v ∧ Reps K W H ds r
end

def immut : HO → Bool
  | .tup _ => true
  | .frz _ _ => true
  | _ => false

structure Ext (W : Wd) (H : Hp) (W' : Wd) (H' : Hp) : Prop where
  z : W'.z = W.z
  pre : ∃ t, W'.i = W.i ++ t
  new : ∀ a ∈ W'.i, a ∉ W.i → H a = none ∧ a ∉ W.z
  keep : ∀ a o, H a = some o → (immut o = true ∨ a ∉ W.i) → H' a = some o
theorem Ext.refl (W : Wd) (H : Hp) : Ext W H W H := ⟨rfl, ⟨[], by simp⟩, fun a h n => absurd h n, fun _ _ h _ => h⟩
theorem Ext.sub {W W' : Wd} {H H' : Hp} (e : Ext W H W' H') {a : Addr} (h : a ∈ W.i) : a ∈ W'.i := by
  obtain ⟨t, e⟩ := e.pre
  rw [e]
  exact List.mem_append_left _ h
theorem Ext.trans {W W1 W2 : Wd} {H H1 H2 : Hp} (a : Ext W H W1 H1) (b : Ext W1 H1 W2 H2) : Ext W H W2 H2 := by
  obtain ⟨t1, e1⟩ := a.pre
  obtain ⟨t2, e2⟩ := b.pre
  refine ⟨b.z.trans a.z, ⟨t1 ++ t2, by rw [e2, e1, List.append_assoc]⟩, fun x hx hn => ?_, fun x o h k => ?_⟩
  · by_cases h1 : x ∈ W1.i
    · exact a.new x h1 hn
    · have q := b.new x hx h1
      have hz : x ∉ W.z := by rw [← a.z]; exact q.2
      refine ⟨?_, hz⟩
      cases hh : H x with
      | none => rfl
      | some o =>
        have := a.keep x o hh (.inr hn)
        rw [q.1] at this
        cases this
  · have h1 := a.keep x o h k
    refine b.keep x o h1 ?_
    rcases k with k | k1
    · exact .inl k
    · refine .inr fun hx => ?_
      have := (a.new x hx k1).1
      rw [this] at h
      cases h
theorem Ext.sqF {K : PySem.W.Frag} {W W' : Wd} {H H' : Hp} (e : Ext W H W' H') {a : Addr} {vs : List V} (h : SqF K H a vs) : SqF K H' a vs := by
  rcases h with ⟨o, h, k⟩ | h
  · exact .inl ⟨o, e.keep _ _ h (.inl rfl), k⟩
  · exact .inr h
theorem Ext.lim {K : PySem.W.Frag} {W W' : Wd} {H H' : Hp} (e : Ext W H W' H') {a : Addr} {vs : List V} (h : LIm K W H a vs) : LIm K W' H' a vs := by
  rcases h with ⟨h, k1, k2⟩ | h
  · have hs : ∃ o, H a = some o := by
      rcases h with h | ⟨o, h⟩
      · exact ⟨_, h⟩
      · exact ⟨_, h⟩
    obtain ⟨o, ho⟩ := hs
    refine .inl ⟨?_, fun hx => ?_, by rw [e.z]; exact k2⟩
    · rcases h with h | ⟨o, h⟩
      · exact .inl (e.keep _ _ h (.inr k1))
      · exact .inr ⟨o, e.keep _ _ h (.inl rfl)⟩
    · have := (e.new a hx k1).1
      rw [this] at ho
      cases ho
  · exact .inr h
theorem Ext.lims {W W' : Wd} {H H' : Hp} (e : Ext W H W' H') {a : Addr} {o : HO} (h : H a = some o ∧ a ∉ W.i ∧ a ∉ W.z) : H' a = some o ∧ a ∉ W'.i ∧ a ∉ W'.z :=
  ⟨e.keep a o h.1 (.inr h.2.1), (fun hx => by
    have := (e.new a hx h.2.1).1
    rw [h.1] at this
    cases this), by rw [e.z]; exact h.2.2⟩
mutual
theorem Rep.ext {K : PySem.W.Frag} {W W' : Wd} {H H' : Hp} (e : Ext W H W' H') : ∀ {d : D} {v : V}, Rep K W H d v → Rep K W' H' d v
  | .non, v, h => by unfold Rep at h ⊢; exact h
  | .bl b, v, h => by unfold Rep at h ⊢; exact h
  | .int i, v, h => by unfold Rep at h ⊢; exact h
  | .str x, v, h => by unfold Rep at h ⊢; exact h
  | .tup ds, v, h => by
    unfold Rep at h ⊢
    obtain ⟨a, vs, e1, e2, e3⟩ := h
    exact ⟨a, vs, e1, e.sqF e2, Reps.ext e e3⟩
  | .lst ds, v, h => by
    unfold Rep at h ⊢
    obtain ⟨a, vs, e1, e2, e3⟩ := h
    exact ⟨a, vs, e1, e.lims e2, Reps.ext e e3⟩
  | .scr ds, v, h => by
    unfold Rep at h ⊢
    obtain ⟨a, vs, e1, e2, e3⟩ := h
    exact ⟨a, vs, e1, e.lim e2, Reps.ext e e3⟩
  | .ref i, v, h => by
    unfold Rep at h ⊢
    obtain ⟨a, e1, e2⟩ := h
    obtain ⟨t, et⟩ := e.pre
    refine ⟨a, e1, ?_⟩
    rw [et, List.getElem?_append_left (List.getElem?_eq_some_iff.mp e2).1]
    exact e2
theorem Reps.ext {K : PySem.W.Frag} {W W' : Wd} {H H' : Hp} (e : Ext W H W' H') : ∀ {ds : List D} {vs : List V}, Reps K W H ds vs → Reps K W' H' ds vs
  | [], vs, h => by unfold Reps at h ⊢; exact h
  | d :: ds, vs, h => by
    unfold Reps at h ⊢
    obtain ⟨v, r, e1, e2, e3⟩ := h
    exact ⟨v, r, e1, Rep.ext e e2, Reps.ext e e3⟩
end
section
variable {K : PySem.W.Frag} {W : Wd} {H : Hp}
theorem rep_non : Rep K W H .non .non := by unfold Rep; rfl
theorem rep_bl {b : Bool} : Rep K W H (.bl b) (.bl b) := by unfold Rep; rfl
theorem rep_int {i : Int} : Rep K W H (.int i) (.int i) := by unfold Rep; rfl
theorem rep_str {x : Str} : Rep K W H (.str x) (.str x) := by unfold Rep; rfl
theorem reps_nil : Reps K W H [] [] := by unfold Reps; rfl
theorem reps_cons {d : D} {ds : List D} {v : V} {vs : List V} (h : Rep K W H d v) (t : Reps K W H ds vs) : Reps K W H (d :: ds) (v :: vs) := by unfold Reps; exact ⟨v, vs, rfl, h, t⟩
theorem rep_tup {a : Addr} {vs : List V} {ds : List D} (h : SqF K H a vs) (r : Reps K W H ds vs) : Rep K W H (.tup ds) (.ref a) := by unfold Rep; exact ⟨a, vs, rfl, h, r⟩
theorem rep_scr {a : Addr} {vs : List V} {ds : List D} (h : LIm K W H a vs) (r : Reps K W H ds vs) : Rep K W H (.scr ds) (.ref a) := by unfold Rep; exact ⟨a, vs, rfl, h, r⟩
theorem Rep.scr' {ds : List D} {v : V} (h : Rep K W H (.scr ds) v) : ∃ a vs, v = .ref a ∧ LIm K W H a vs ∧ Reps K W H ds vs := by unfold Rep at h; exact h
theorem rep_lst {a : Addr} {vs : List V} {ds : List D} (h : H a = some (.lst vs) ∧ a ∉ W.i ∧ a ∉ W.z) (r : Reps K W H ds vs) : Rep K W H (.lst ds) (.ref a) := by unfold Rep; exact ⟨a, vs, rfl, h, r⟩
theorem rep_ref {a : Addr} {i : Nat} (h : W.i[i]? = some a) : Rep K W H (.ref i) (.ref a) := by unfold Rep; exact ⟨a, rfl, h⟩
theorem Rep.non' {v : V} (h : Rep K W H .non v) : v = .non := by unfold Rep at h; exact h
theorem Rep.bl' {b : Bool} {v : V} (h : Rep K W H (.bl b) v) : v = .bl b := by unfold Rep at h; exact h
theorem Rep.int' {i : Int} {v : V} (h : Rep K W H (.int i) v) : v = .int i := by unfold Rep at h; exact h
theorem Rep.str' {x : Str} {v : V} (h : Rep K W H (.str x) v) : v = .str x := by unfold Rep at h; exact h
theorem Rep.tupF' {ds : List D} {v : V} (h : Rep K W H (.tup ds) v) : ∃ a vs, v = .ref a ∧ SqF K H a vs ∧ Reps K W H ds vs := by unfold Rep at h; exact h
theorem Rep.tup' {ds : List D} {v : V} (h : Rep K W H (.tup ds) v) : ∃ a vs, v = .ref a ∧ SqT K H a vs ∧ Reps K W H ds vs := let ⟨a, vs, e1, e2, e3⟩ := h.tupF'; ⟨a, vs, e1, e2.t, e3⟩
theorem Rep.lst' {ds : List D} {v : V} (h : Rep K W H (.lst ds) v) : ∃ a vs, v = .ref a ∧ (H a = some (.lst vs) ∧ a ∉ W.i ∧ a ∉ W.z) ∧ Reps K W H ds vs := by unfold Rep at h; exact h
theorem Rep.ref' {i : Nat} {v : V} (h : Rep K W H (.ref i) v) : ∃ a, v = .ref a ∧ W.i[i]? = some a := by unfold Rep at h; exact h
theorem Reps.nil' {vs : List V} (h : Reps K W H [] vs) : vs = [] := by unfold Reps at h; exact h
theorem Reps.cons' {d : D} {ds : List D} {vs : List V} (h : Reps K W H (d :: ds) vs) : ∃ v r, vs = v :: r ∧ Rep K W H d v ∧ Reps K W H ds r := by unfold Reps at h; exact h
theorem Reps.length : ∀ {ds : List D} {vs : List V}, Reps K W H ds vs → vs.length = ds.length
  | [], vs, h => by rw [h.nil']; rfl
  | d :: ds, vs, h => by
    obtain ⟨v, r, rfl, _, h3⟩ := h.cons'
    rw [List.length_cons, List.length_cons, Reps.length h3]
theorem Reps.get : ∀ {ds : List D} {vs : List V} {i : Nat} {d : D}, Reps K W H ds vs → ds[i]? = some d → ∃ v, vs[i]? = some v ∧ Rep K W H d v
  | [], vs, i, d, h, e => by simp at e
  | x :: ds, vs, 0, d, h, e => by
    obtain ⟨v, r, rfl, h2, h3⟩ := h.cons'
    simp at e
    subst e
    exact ⟨v, rfl, h2⟩
  | x :: ds, vs, i + 1, d, h, e => by
    obtain ⟨v, r, rfl, h2, h3⟩ := h.cons'
    obtain ⟨u, e1, e2⟩ := Reps.get (i := i) h3 (by simpa using e)
    exact ⟨u, by simpa using e1, e2⟩
theorem Reps.append : ∀ {ds es : List D} {vs us : List V}, Reps K W H ds vs → Reps K W H es us → Reps K W H (ds ++ es) (vs ++ us)
  | [], es, vs, us, h, k => by rw [h.nil']; exact k
  | d :: ds, es, vs, us, h, k => by
    obtain ⟨v, r, rfl, h2, h3⟩ := h.cons'
    exact reps_cons h2 (Reps.append h3 k)
theorem reps_one {d : D} {v : V} (h : Rep K W H d v) : Reps K W H [d] [v] := reps_cons h reps_nil
theorem Reps.take : ∀ {ds : List D} {vs : List V} (n : Nat), Reps K W H ds vs → Reps K W H (ds.take n) (vs.take n)
  | _, _, 0, _ => by simpa using reps_nil
  | [], vs, n + 1, h => by rw [h.nil']; simpa using reps_nil
  | d :: ds, vs, n + 1, h => by
    obtain ⟨v, r, rfl, h2, h3⟩ := h.cons'
    exact reps_cons h2 (Reps.take n h3)
theorem Reps.drop : ∀ {ds : List D} {vs : List V} (n : Nat), Reps K W H ds vs → Reps K W H (ds.drop n) (vs.drop n)
  | _, _, 0, h => by simpa using h
  | [], vs, n + 1, h => by rw [h.nil']; simpa using reps_nil
  | d :: ds, vs, n + 1, h => by
    obtain ⟨v, r, rfl, h2, h3⟩ := h.cons'
    exact Reps.drop n h3
theorem Reps.set : ∀ {ds : List D} {vs : List V} {d : D} {v : V} (n : Nat), Reps K W H ds vs → Rep K W H d v → Reps K W H (ds.set n d) (vs.set n v)
  | [], vs, d, v, n, h, k => by rw [h.nil']; simpa using reps_nil
  | x :: ds, vs, d, v, 0, h, k => by
    obtain ⟨u, r, rfl, h2, h3⟩ := h.cons'
    exact reps_cons k h3
  | x :: ds, vs, d, v, n + 1, h, k => by
    obtain ⟨u, r, rfl, h2, h3⟩ := h.cons'
    exact reps_cons h2 (Reps.set n h3 k)
theorem Reps.reverse {ds : List D} {vs : List V} (h : Reps K W H ds vs) : Reps K W H ds.reverse vs.reverse := by
  induction ds generalizing vs with
  | nil => rw [h.nil']; exact reps_nil
  | cons d ds ih =>
    obtain ⟨v, r, rfl, h2, h3⟩ := h.cons'
    rw [List.reverse_cons, List.reverse_cons]
    exact (ih h3).append (reps_one h2)
theorem reps_ints : ∀ ns : List Int, Reps K W H (ns.map D.int) (ns.map V.int)
  | [] => reps_nil
  | n :: ns => reps_cons rep_int (reps_ints ns)
end

/-- a dict whose keys are tuples of ints, by its entries: the keys, where their tuples stand, the values -/
def entI (x : List Int × Addr × Value) : DictEntry := ⟨reduceHash (Builtin.Tuple.tupleHashOf (x.1.map hashInt)), .ref x.2.1, x.2.2⟩
def dictI (a : Addr) (kvs : List (List Int × Addr × V)) : HO := .ext fun h => kvs.length ≤ sizeLine ∧ (a == sysModules) = false ∧ ∃ xs : List (List Int × Addr × Value),
  Paired (fun (p : List Int × Addr × V) (q : List Int × Addr × Value) => p.1 = q.1 ∧ p.2.1 = q.2.1 ∧ RelV p.2.2 q.2.2) kvs xs ∧
  ∃ o es ep, h.get? a = some o ∧ o.ExactDict ∧ o.data = .dict es ep ∧ es.toList = xs.map entI ∧ (xs.map (·.1)).Nodup
/-- a caught exception at a, of the class C, its dict at o -/
def ExH (C : Value) (o : Option Addr) (a : Addr) : HO := .ext fun h => ∃ (oe : Obj) (vs : Array Value), h.get? a = some oe ∧ Zc C o oe ∧ oe.data = .fields vs
/-- the fields of an exception -/
def XFs (K : PySem.W.Frag) (W : Wd) (H : Hp) (fs : List (Str × D)) (o : Option Addr) : Prop :=
  (fs = [] ∧ o = none) ∨ ∃ d gs, o = some d ∧ (H d = some (.xd gs) ∧ d ∉ W.i ∧ d ∉ W.z) ∧ gs.map (·.1) = fs.map (·.1) ∧ Reps K W H (fs.map (·.2)) (gs.map (·.2))
theorem XFs.ext {K : PySem.W.Frag} {W W' : Wd} {H H' : Hp} {fs : List (Str × D)} {o : Option Addr} (e : Ext W H W' H') (h : XFs K W H fs o) : XFs K W' H' fs o := by
  rcases h with h | ⟨d, gs, e1, e2, e3, e4⟩
  · exact .inl h
  · exact .inr ⟨d, gs, e1, e.lims e2, e3, e4.ext e⟩
/-! ### the memory -/
section
variable (K : PySem.W.Frag) (mg : Str → Option Value)
def CellOk (W : Wd) (H : Hp) (a : Addr) : Cell → Prop
  | .lst ds => ∃ vs, H a = some (.lst vs) ∧ Reps K W H ds vs
  | .dK kvs => ∃ kvs', H a = some (.dK kvs') ∧ kvs'.map (·.1) = kvs.map (·.1) ∧ Reps K W H (kvs.map (·.2)) (kvs'.map (·.2))
  | .dT kvs => ∃ kvs', H a = some (dictI a kvs') ∧ kvs'.map (·.1) = kvs.map (·.1) ∧ (∀ x ∈ kvs', SqF K H x.2.1 (x.1.map V.int)) ∧ Reps K W H (kvs.map (·.2)) (kvs'.map (·.2.2))
  | .ins c fs => ∃ C dx fs', mg c = some (.ref C) ∧ H a = some (.ins C dx fs') ∧ fs'.map (·.1) = fs.map (·.1) ∧ Reps K W H (fs.map (·.2)) (fs'.map (·.2))
  | .dKz kvs => ∃ o kvs', H a = some (.frz o (.dK kvs')) ∧ kvs'.map (·.1) = kvs.map (·.1) ∧ Reps K W H (kvs.map (·.2)) (kvs'.map (·.2))
  | .dTz kvs => ∃ o kvs', H a = some (.frz o (dictI a kvs')) ∧ kvs'.map (·.1) = kvs.map (·.1) ∧ (∀ x ∈ kvs', SqF K H x.2.1 (x.1.map V.int)) ∧ Reps K W H (kvs.map (·.2)) (kvs'.map (·.2.2))
  | .exc c fs => ∃ C o, mg c = some C ∧ H a = some (ExH C o a) ∧ XFs K W H fs o
structure Sim (W : Wd) (H : Hp) (m : Mem) : Prop where
  nd : W.i.Nodup
  len : W.i.length = m.length
  cell : ∀ (i : Nat) (a : Addr) (c : Cell), W.i[i]? = some a → m[i]? = some c → CellOk K mg W H a c
  sep : ∀ a ∈ W.i, a ∉ W.z
  zs : ∀ a ∈ W.z, ∃ o, H a = some o
theorem upd_some {H : Hp} {p a : Addr} {o : HO} (h : ∃ u, H a = some u) : ∃ u, upd H p o a = some u := by
  by_cases e : a = p
  · subst e; exact ⟨_, upd_same⟩
  · rw [upd_ne e]; exact h
def REnv (W : Wd) (H : Hp) (η : Env') (σ : SL) : Prop := η.length = σ.length ∧ ∀ (i : Nat) (d : D), η[i]? = some (some d) → ∃ v, σ[i]? = some (some v) ∧ Rep K W H d v
end
section
variable {K : PySem.W.Frag} {mg : Str → Option Value} {W W' : Wd} {H H' : Hp} {m : Mem}
theorem CellOk.mut {a : Addr} {c : Cell} (h : CellOk K mg W H a c) : ∃ o, H a = some o ∧ True := by
  cases c with
  | lst ds => obtain ⟨vs, e, _⟩ := h; exact ⟨_, e, trivial⟩
  | dK kvs => obtain ⟨vs, e, _⟩ := h; exact ⟨_, e, trivial⟩
  | dT kvs => obtain ⟨vs, e, _⟩ := h; exact ⟨_, e, trivial⟩
  | ins c fs => obtain ⟨_, _, _, _, e, _⟩ := h; exact ⟨_, e, trivial⟩
  | dKz kvs => obtain ⟨_, _, e, _⟩ := h; exact ⟨_, e, trivial⟩
  | dTz kvs => obtain ⟨_, _, e, _⟩ := h; exact ⟨_, e, trivial⟩
  | exc c fs => obtain ⟨_, _, _, e, _⟩ := h; exact ⟨_, e, trivial⟩
theorem Sim.at (s : Sim K mg W H m) {a : Addr} (h : a ∈ W.i) : ∃ o, H a = some o ∧ True := by
  obtain ⟨i, hi, e⟩ := List.mem_iff_getElem.mp h
  have hm : i < m.length := by rw [← s.len]; exact hi
  exact (s.cell i a m[i] (by rw [← e]; exact List.getElem?_eq_getElem hi) (List.getElem?_eq_getElem hm)).mut
/-- what is true of the cells stays, where the heap is the same at a -/
theorem CellOk.ext {a : Addr} {c : Cell} (e : Ext W H W' H') (ha : H' a = H a) (h : CellOk K mg W H a c) : CellOk K mg W' H' a c := by
  cases c with
  | lst ds => obtain ⟨vs, e1, e2⟩ := h; exact ⟨vs, ha.trans e1, e2.ext e⟩
  | dK kvs => obtain ⟨vs, e1, e2, e3⟩ := h; exact ⟨vs, ha.trans e1, e2, e3.ext e⟩
  | dT kvs => obtain ⟨vs, e1, e2, e3, e4⟩ := h; exact ⟨vs, ha.trans e1, e2, fun x hx => e.sqF (e3 x hx), e4.ext e⟩
  | ins c fs => obtain ⟨C, dx, fs', e0, e1, e2, e3⟩ := h; exact ⟨C, dx, fs', e0, ha.trans e1, e2, e3.ext e⟩
  | dKz kvs => obtain ⟨o, vs, e1, e2, e3⟩ := h; exact ⟨o, vs, ha.trans e1, e2, e3.ext e⟩
  | dTz kvs => obtain ⟨o, vs, e1, e2, e3, e4⟩ := h; exact ⟨o, vs, ha.trans e1, e2, fun x hx => e.sqF (e3 x hx), e4.ext e⟩
  | exc c fs => obtain ⟨C, o, e0, e1, e2⟩ := h; exact ⟨C, o, e0, ha.trans e1, e2.ext e⟩
/-- a fresh object beside the cells -/
theorem Ext.fresh {p : Addr} {o : HO} (h : H p = none) : Ext W H W (upd H p o) :=
  ⟨rfl, ⟨[], by simp⟩, fun a h n => absurd h n, fun a u e _ => by rw [upd_ne (ne_of_none e h)]; exact e⟩
theorem Sim.fresh (s : Sim K mg W H m) {p : Addr} {o : HO} (h : H p = none) : Sim K mg W (upd H p o) m :=
  ⟨s.nd, s.len, fun i a c e1 e2 => (s.cell i a c e1 e2).ext (Ext.fresh h) (by
    obtain ⟨u, e, _⟩ := (s.cell i a c e1 e2).mut
    exact upd_ne (ne_of_none e h)), s.sep, fun a ha => upd_some (s.zs a ha)⟩
theorem Sim.nin (s : Sim K mg W H m) {p : Addr} (h : H p = none) : p ∉ W.i := fun hp => by
  obtain ⟨o, e, _⟩ := s.at hp
  rw [h] at e
  cases e
theorem Sim.ninz (s : Sim K mg W H m) {p : Addr} (h : H p = none) : p ∉ W.z := fun hp => by
  obtain ⟨o, e⟩ := s.zs p hp
  rw [h] at e
  cases e
/-- a new cell -/
def Wd.add (W : Wd) (p : Addr) : Wd := ⟨W.i ++ [p], W.z⟩
theorem Ext.alloc {p : Addr} {o : HO} (h : H p = none) (hz : p ∉ W.z) : Ext W H (W.add p) (upd H p o) :=
  ⟨rfl, ⟨[p], rfl⟩, fun a h' n => by
    have : a = p := by
      rcases List.mem_append.mp h' with q | q
      · exact absurd q n
      · simpa using q
    subst this
    exact ⟨h, hz⟩, fun a u e _ => by rw [upd_ne (ne_of_none e h)]; exact e⟩
theorem Sim.alloc (s : Sim K mg W H m) {p : Addr} {o : HO} {c : Cell} (h : H p = none) (hc : CellOk K mg (W.add p) (upd H p o) p c) : Sim K mg (W.add p) (upd H p o) (m ++ [c]) := by
  have hz := s.ninz h
  refine ⟨?_, ?_, fun i a c' e1 e2 => ?_, fun a ha => ?_, fun a ha => upd_some (s.zs a ha)⟩
  · refine List.nodup_append.mpr ⟨s.nd, by simp, fun a ha b hb => ?_⟩
    rintro rfl
    have : a = p := by simpa using hb
    subst this
    exact s.nin h ha
  · show (W.i ++ [p]).length = _
    rw [List.length_append, List.length_append, s.len]
    rfl
  · have e1 : (W.i ++ [p])[i]? = some a := e1
    by_cases hi : i < W.i.length
    · rw [List.getElem?_append_left hi] at e1
      rw [List.getElem?_append_left (by rw [← s.len]; exact hi)] at e2
      have k := s.cell i a c' e1 e2
      obtain ⟨u, e, _⟩ := k.mut
      exact k.ext (Ext.alloc h hz) (upd_ne (ne_of_none e h))
    · have hi' : i = W.i.length := by
        have := (List.getElem?_eq_some_iff.mp e1).1
        rw [List.length_append] at this
        simp at this
        omega
      subst hi'
      rw [List.getElem?_append_right (Nat.le_refl _), Nat.sub_self] at e1
      rw [s.len, List.getElem?_append_right (Nat.le_refl _), Nat.sub_self] at e2
      simp at e1 e2
      subst e1
      subst e2
      exact hc
  · rcases List.mem_append.mp ha with q | q
    · exact s.sep a q
    · have : a = p := by simpa using q
      subst this
      exact hz
/-- a cell is changed -/
theorem Ext.mut {a : Addr} {o o' : HO} (ha : a ∈ W.i) (h : H a = some o) (hi : immut o = false) : Ext W H W (upd H a o') :=
  ⟨rfl, ⟨[], by simp⟩, fun a h n => absurd h n, fun b u e k => by
    have : b ≠ a := by
      rintro rfl
      rcases k with k | k
      · rw [h] at e
        cases e
        rw [hi] at k
        cases k
      · exact k ha
    rw [upd_ne this]
    exact e⟩
theorem Sim.mut (s : Sim K mg W H m) {i : Nat} {a : Addr} {o' : HO} {c : Cell} (hi : W.i[i]? = some a) (hc : CellOk K mg W (upd H a o') a c) (hq : ∃ o, H a = some o ∧ immut o = false := by exact ⟨_, by assumption, rfl⟩) : Sim K mg W (upd H a o') (m.set i c) := by
  have ha : a ∈ W.i := List.mem_of_getElem? hi
  obtain ⟨o, ho, hm⟩ := hq
  refine ⟨s.nd, by rw [List.length_set]; exact s.len, fun j b c' e1 e2 => ?_, s.sep, fun a ha => upd_some (s.zs a ha)⟩
  by_cases hj : j = i
  · subst hj
    rw [hi] at e1
    cases e1
    have hl : j < m.length := by
      rw [← s.len]
      exact (List.getElem?_eq_some_iff.mp hi).1
    rw [List.getElem?_set_self hl] at e2
    cases e2
    exact hc
  · rw [List.getElem?_set_ne (Ne.symm hj)] at e2
    have hb : b ≠ a := by
      rintro rfl
      exact hj ((List.getElem?_inj (List.getElem?_eq_some_iff.mp e1).1 s.nd).mp (e1.trans hi.symm))
    exact (s.cell j b c' e1 e2).ext (Ext.mut ha ho hm) (upd_ne hb)
theorem REnv.ext {η : Env'} {σ : SL} (e : Ext W H W' H') (h : REnv K W H η σ) : REnv K W' H' η σ :=
  ⟨h.1, fun i d q => let ⟨v, a, b⟩ := h.2 i d q; ⟨v, a, b.ext e⟩⟩
theorem REnv.set {η : Env'} {σ : SL} {i : Nat} {d : D} {v : V} (h : REnv K W H η σ) (r : Rep K W H d v) : REnv K W H (η.set i (some d)) (σ.set i (some v)) := by
  refine ⟨by rw [List.length_set, List.length_set]; exact h.1, fun j d' q => ?_⟩
  by_cases hj : i = j
  · subst hj
    have hl := (List.getElem?_eq_some_iff.mp q).1
    rw [List.length_set] at hl
    rw [List.getElem?_set_self hl] at q
    cases q
    exact ⟨v, List.getElem?_set_self (by rw [← h.1]; exact hl), r⟩
  · rw [List.getElem?_set_ne hj] at q
    obtain ⟨v', a, b⟩ := h.2 j d' q
    exact ⟨v', by rw [List.getElem?_set_ne hj]; exact a, b⟩
end

/-! ### what is wanted of a result -/
section
variable (K : PySem.W.Frag) (mg : Str → Option Value) (E : XK)
def ExR (x : Exn) (W : Wd) (H : Hp) (c : Value) (o : Option Addr) : Prop := mg x.cls = some c ∧ XFs K W H x.fs o
def Post {α β : Type} (Rl : Wd → Hp → α → β → Prop) (W : Wd) (H : Hp) (Q : β → Hp → Prop) : R α → Prop
  | .ok a m => ∀ b W' H', Ext W H W' H' → Sim K mg W' H' m → Rl W' H' a b → Q b H'
  | .exc x m => ∀ c o W' H', Ext W H W' H' → Sim K mg W' H' m → ExR K mg x W' H' c o → E c o H'
  | .stk => False
end
section
variable {K : PySem.W.Frag} {mg : Str → Option Value} {E : XK} {W W' : Wd} {H H' : Hp} {α β γ δ : Type} {Rl : Wd → Hp → α → β → Prop} {Rm : Wd → Hp → γ → δ → Prop}
theorem Post.ext {Q : β → Hp → Prop} {r : R α} (e : Ext W H W' H') (h : Post K mg E Rl W H Q r) : Post K mg E Rl W' H' Q r := by
  cases r with
  | ok a m => exact fun b W2 H2 e2 s q => h b W2 H2 (e.trans e2) s q
  | exc x m => exact fun c o W2 H2 e2 s q => h c o W2 H2 (e.trans e2) s q
  | stk => exact h
theorem Post.imp {Q Q' : β → Hp → Prop} {r : R α} (h : Post K mg E Rl W H Q r) (k : ∀ b H', Q b H' → Q' b H') : Post K mg E Rl W H Q' r := by
  cases r with
  | ok a m => exact fun b W2 H2 e2 s q => k _ _ (h b W2 H2 e2 s q)
  | exc x m => exact h
  | stk => exact h
theorem Post.bind {Q : δ → Hp → Prop} {r : R α} {f : α → Mem → R γ} (h : Post K mg E Rm W H Q (r.bind f)) :
    Post K mg E Rl W H (fun b H1 => ∃ W1 a m1, Ext W H W1 H1 ∧ Sim K mg W1 H1 m1 ∧ Rl W1 H1 a b ∧ Post K mg E Rm W1 H1 Q (f a m1)) r := by
  cases r with
  | ok a m => exact fun b W2 H2 e2 s q => ⟨W2, a, m, e2, s, q, Post.ext e2 h⟩
  | exc x m => exact h
  | stk => exact h
/-- a result at once -/
theorem Post.now {Q : β → Hp → Prop} {a : α} {m : Mem} {b : β} (h : Post K mg E Rl W H Q (.ok a m)) (s : Sim K mg W H m) (r : Rl W H a b) : Q b H := h b W H (Ext.refl W H) s r
end
/-- a new list, kept as a cell or at once -/
def mkL (al : Bool) (ds : List D) (m : Mem) : R D := match al with
  | true => .ok (.ref m.length) (m ++ [.lst ds])
  | false => .ok (.lst ds) m
section
variable {K : PySem.W.Frag} {mg : Str → Option Value} {E : XK} {W : Wd} {H : Hp} {m : Mem} {Q : VK} {ds : List D} {vs : List V} {p : Addr}
theorem Sim.newL {al : Bool} (s : Sim K mg W H m) (hp : H p = none) (r : Reps K W H ds vs) (h : Post K mg E (Rep K) W H Q (mkL al ds m)) : Q (.ref p) (upd H p (.lst vs)) := by
  cases al with
  | false => exact h _ W _ (Ext.fresh hp) (s.fresh hp) (rep_lst ⟨upd_same, s.nin hp, s.ninz hp⟩ (r.ext (Ext.fresh hp)))
  | true =>
    have e : Ext W H (W.add p) (upd H p (.lst vs)) := Ext.alloc hp (s.ninz hp)
    refine h _ (W.add p) _ e (s.alloc hp ⟨vs, upd_same, r.ext e⟩) (rep_ref ?_)
    show (W.i ++ [p])[m.length]? = some p
    rw [← s.len, List.getElem?_append_right (Nat.le_refl _), Nat.sub_self]
    rfl
theorem Sim.newT {o : Obj} (s : Sim K mg W H m) (hp : H p = none) (ho : o.dict = none ∧ o.cls = .type "tuple") (r : Reps K W H ds vs) (h : Post K mg E (Rep K) W H Q (.ok (.tup ds) m)) : Q (.ref p) (upd H p (.frz o (.tup vs))) :=
  h _ W _ (Ext.fresh hp) (s.fresh hp) (rep_tup (.inl ⟨o, upd_same, ho⟩) (r.ext (Ext.fresh hp)))
end
def lstC : Option Cell → Option (List D)
  | some (.lst ds) => some ds
  | _ => none
/-- a list that is read -/
def lstOf (m : Mem) : D → Option (List D)
  | .lst ds => some ds
  | .scr ds => some ds
  | .ref i => lstC m[i]?
  | _ => none
/-- a list that is a cell or made here (no script) -/
def lstOwn (m : Mem) : D → Option (List D)
  | .lst ds => some ds
  | .ref i => lstC m[i]?
  | _ => none
section
variable {K : PySem.W.Frag} {mg : Str → Option Value} {W : Wd} {H : Hp} {m : Mem} {d : D} {v : V} {ds : List D}
theorem Sim.own (s : Sim K mg W H m) (r : Rep K W H d v) (h : lstOwn m d = some ds) : ∃ a vs, v = .ref a ∧ H a = some (.lst vs) ∧ Reps K W H ds vs := by
  cases d with
  | lst xs =>
    cases h
    obtain ⟨a, vs, e1, e2, e3⟩ := r.lst'
    exact ⟨a, vs, e1, e2.1, e3⟩
  | ref i =>
    obtain ⟨a, e1, e2⟩ := r.ref'
    have h : lstC m[i]? = some ds := h
    cases hm : m[i]? with
    | none => rw [hm] at h; cases h
    | some c =>
      rw [hm] at h
      cases c with
      | lst xs =>
        cases h
        obtain ⟨vs, q1, q2⟩ := s.cell i a _ e2 hm
        exact ⟨a, vs, e1, q1, q2⟩
      | _ => cases h
  | _ => cases h
theorem Sim.lst (s : Sim K mg W H m) (r : Rep K W H d v) (h : lstOf m d = some ds) : ∃ a vs, v = .ref a ∧ SqL K H a vs ∧ Reps K W H ds vs := by
  cases d with
  | scr xs =>
    cases h
    obtain ⟨a, vs, e1, e2, e3⟩ := r.scr'
    exact ⟨a, vs, e1, e2.sq, e3⟩
  | lst xs =>
    obtain ⟨a, vs, e1, e2, e3⟩ := s.own r (ds := ds) h
    exact ⟨a, vs, e1, .inl (.inl e2), e3⟩
  | ref i =>
    obtain ⟨a, vs, e1, e2, e3⟩ := s.own r (ds := ds) h
    exact ⟨a, vs, e1, .inl (.inl e2), e3⟩
  | _ => cases h
end
/-- the relations for truths -/
def Same' {α : Type} (_ : Wd) (_ : Hp) (a b : α) : Prop := a = b
section
variable (K : PySem.W.Frag) (mg : Str → Option Value) (E : XK)
/-- the reading of a mirror -/
def rd {α β : Type} (Rl : Wd → Hp → α → β → Prop) (c : Env' → Mem → R α) : SL → Hp → (β → Hp → Prop) → Prop := fun σ H Q =>
  ∃ W η m, Sim K mg W H m ∧ REnv K W H η σ ∧ Post K mg E Rl W H Q (c η m)
abbrev rdE (c : Env' → Mem → R D) : TE := rd K mg E (Rep K) c
abbrev rdA (c : Env' → Mem → R (List D)) : TA := rd K mg E (Reps K) c
abbrev rdT (c : Env' → Mem → R Bool) : TT := rd K mg E Same' c
end
theorem _root_.L2.PE.imp {X : Cx} {e : Expr} {t t' : TE} (h : PE X e t) (k : ∀ σ H Q, t' σ H Q → t σ H Q) : PE X e t' := ⟨fun pins s σ H Q I q => h.run pins s σ H Q I (k σ H Q q)⟩
theorem _root_.L2.PT.imp {X : Cx} {e : Expr} {t t' : TT} (h : PT X e t) (k : ∀ σ H Q, t' σ H Q → t σ H Q) : PT X e t' := ⟨fun pins s σ H Q I q => h.run pins s σ H Q I (k σ H Q q)⟩
theorem _root_.L2.PW.imp {X : Cx} {e : Expr} {t t' : TT} (h : PW X e t) (k : ∀ σ H Q, t' σ H Q → t σ H Q) : PW X e t' := ⟨fun wh pins s σ H Q I q => h.run wh pins s σ H Q I (k σ H Q q)⟩
theorem _root_.L2.PA.imp {X : Cx} {e : List Expr} {t t' : TA} (h : PA X e t) (k : ∀ σ H Q, t' σ H Q → t σ H Q) : PA X e t' := ⟨fun pos pins s σ H Q I q => h.run pos pins s σ H Q I (k σ H Q q)⟩
theorem _root_.L2.PK.imp {X : Cx} {e : List Keyword} {t t' : TA} (h : PK X e t) (k : ∀ σ H Q, t' σ H Q → t σ H Q) : PK X e t' := ⟨fun pos pins s σ H Q I q => h.run pos pins s σ H Q I (k σ H Q q)⟩
theorem _root_.L2.PS.imp {X : Cx} {e : Stmt} {t t' : TS} (h : PS X e t) (k : ∀ Dn σ H, t' Dn σ H → t Dn σ H) : PS X e t' := ⟨fun pins s σ H Dn I q => h.run pins s σ H Dn I (k Dn σ H q)⟩
theorem _root_.L2.PSs.imp {X : Cx} {e : List Stmt} {t t' : TS} (h : PSs X e t) (k : ∀ Dn σ H, t' Dn σ H → t Dn σ H) : PSs X e t' := ⟨fun pins s σ H Dn I q => h.run pins s σ H Dn I (k Dn σ H q)⟩
end Mir

/-! Mir, expressions. -/
namespace Mir
open PySem PySem.Spec PyProof.Rows L2

/-! ### new tuples, told with their object -/
def NewT (xs : List V) (H : Hp) (Q : VK) : Prop := ∀ p o, H p = none → (o : Obj).dict = none ∧ o.cls = .type "tuple" → Q (.ref p) (upd H p (.frz o (.tup xs)))
def tTupF (t : TA) : TE := fun σ H Q => t σ H fun xs H1 => xs.length ≤ sizeLine ∧ NewT xs H1 Q
theorem pe_tupF {X : Cx} {es : List Expr} {t : TA} {x1 : Nat} {pos : Pos} (h : PA X es t) : PE X (.Tuple es x1 pos) (tTupF t) := by
  refine ⟨fun pins s σ H Q I hq => ?_⟩
  refine wpAny_Tuple_spliced (thn (h.run pos pins s σ H _ I hq) fun us s1 ⟨xs, H1, I1, r, z, q⟩ => ⟨by rw [← r.length]; exact z, ?_⟩)
  have hf : H1 s1.heap.objs.size = none := I1.hok.fresh (Nat.le_refl _)
  refine ⟨.ref s1.heap.objs.size, _, I1.laid (o := .frz { cls := .type "tuple", data := .seq us.toArray } (.tup xs)) (t' := s1.toks) (fun b u e => Heap.get?_push_of_some _ e) (Nat.le_refl _) ?_, rfl, q _ _ hf ⟨rfl, rfl⟩⟩
  exact ⟨Heap.get?_push_size _ rfl, z, us, r, ⟨_, Heap.get?_push_size _ rfl, rfl, _, rfl⟩⟩
section
variable {X : Cx}
theorem op_catF : OpR X (binaryOp .Add) (fun x y H Q => ∃ a b xs ys, x = .ref a ∧ y = .ref b ∧ SqT X.K H a xs ∧ SqT X.K H b ys ∧ xs.length + ys.length ≤ sizeLine ∧ (xs = [] → Q (.ref b) H) ∧ (xs ≠ [] → ys = [] → Q (.ref a) H) ∧ (xs ≠ [] → ys ≠ [] → NewT (xs ++ ys) H Q)) := by
  intro pins s σ H x y v u Q I rx ry h
  obtain ⟨a, b, xs, ys, rfl, rfl, ha, hb, hz, q0, q1, q2⟩ := h
  cases rx
  cases ry
  obtain ⟨its, r1, p1, _⟩ := I.tuple ha
  obtain ⟨its2, r2, p2, _⟩ := I.tuple hb
  by_cases hx : xs = []
  · subst hx
    cases r1
    exact cat_tup0 p1 p2 ⟨.ref b, H, I, rfl, q0 rfl⟩
  · refine HT.cat_tup p1 p2 (fun z => hx (r1.nil_iff.mp z)) (fun z => ⟨.ref a, H, I, rfl, q1 hx (r2.nil_iff.mp z)⟩) (fun z => ?_) (by rw [← r1.length, ← r2.length]; exact hz)
    refine ⟨.ref s.heap.objs.size, _, I.laid (t' := s.toks) (o := .frz { cls := .type "tuple", data := .seq (its ++ its2).toArray } (.tup (xs ++ ys))) (fun b ob q => Heap.get?_push_of_some _ q) (Nat.le_refl _) ?_, rfl, q2 hx (fun w => z (r2.nil_iff.mpr w)) _ _ (I.hok.fresh (Nat.le_refl _)) ⟨rfl, rfl⟩⟩
    exact ⟨Heap.get?_push_size _ rfl, by rw [List.length_append]; exact hz, _, r1.append r2, IsTup.new _ _⟩
theorem sl_tupF : SlR X (fun x lo hi H Q => ∃ a xs, x = .ref a ∧ SqT X.K H a xs ∧ (HT.sIx xs.length 0 lo = 0 ∧ HT.sIx xs.length xs.length hi = xs.length → Q (.ref a) H) ∧ (¬ (HT.sIx xs.length 0 lo = 0 ∧ HT.sIx xs.length xs.length hi = xs.length) → NewT (cutV xs lo hi) H Q)) := by
  intro pins s σ H x v vl vu lo hi sl Q I rx hs pl pu h
  obtain ⟨a, xs, rfl, hx, q1, q2⟩ := h
  cases rx
  obtain ⟨its, r, ht, hz⟩ := I.tuple hx
  have hlen : its.toArray.size = xs.length := by rw [List.size_toArray]; exact r.length.symm
  refine ⟨"tuple", _, PyProof.Rows.slot_tuple_getitem.lookup, ht.typeIs, ?_⟩
  by_cases hw : HT.sIx xs.length 0 lo = 0 ∧ HT.sIx xs.length xs.length hi = xs.length
  · exact getItem_tuple_whole ht hs pl pu (by rw [hlen]; exact hw) ⟨.ref a, H, I, rfl, q1 hw⟩
  · refine HT.getItem_tuple_cut ht hs pl pu (by rw [hlen]; exact hw) ?_ (by rw [hlen]; exact hz)
    rw [hlen]
    refine ⟨.ref s.heap.objs.size, _, I.laid (t' := s.toks) (o := .frz { cls := .type "tuple", data := .seq ((its.drop (HT.sIx xs.length 0 lo)).take (HT.sIx xs.length xs.length hi - HT.sIx xs.length 0 lo)).toArray } (.tup (cutV xs lo hi))) (fun b ob q => Heap.get?_push_of_some _ q) (Nat.le_refl _) ?_, rfl, q2 hw _ _ (I.hok.fresh (Nat.le_refl _)) ⟨rfl, rfl⟩⟩
    exact ⟨Heap.get?_push_size _ rfl, Nat.le_trans (cutV_length xs lo hi) hz, _, (r.drop (HT.sIx xs.length 0 lo)).take (HT.sIx xs.length xs.length hi - HT.sIx xs.length 0 lo), IsTup.new _ _⟩
theorem call_tupleF : CallR X (.type "tuple") (fun xs H Q => ∃ p ys, xs = [.ref p] ∧ ((SqL X.K H p ys ∧ NewT ys H Q) ∨ (SqT X.K H p ys ∧ Q (.ref p) H))) := by
  intro pins s σ H xs us Q I r h
  obtain ⟨p, ys, rfl, h⟩ := h
  obtain ⟨u, rfl, rx⟩ := vals1 r
  cases rx
  rcases h with ⟨hq, q⟩ | ⟨hq, q⟩
  · obtain ⟨its, r', pl, hz⟩ := I.list hq
    have hlen := r'.length
    refine call_tuple_list pl.isList (fun h' kp => ?_) (by simp only [List.size_toArray] <;> omega)
    have I1 : Inv X pins σ H { s with heap := h' } := I.kept (t' := s.toks) kp
    have I2 : Inv X pins σ (upd H h'.objs.size (.frz { cls := .type "tuple", data := .seq its.toArray } (.tup ys))) { s with heap := h'.push { cls := .type "tuple", data := .seq its.toArray } } :=
      I1.laid (t' := s.toks) (fun b o e => Heap.get?_push_of_some _ e) (Nat.le_refl _) (show ObjOk X.prog X.w _ _ _ (.frz _ (.tup ys)) from ⟨Heap.get?_push_size _ rfl, hz, its, r', IsTup.new _ _⟩)
    exact ⟨.ref h'.objs.size, _, I2, rfl, q _ _ (I1.hok.fresh (Nat.le_refl _)) ⟨rfl, rfl⟩⟩
  · obtain ⟨its, r', pl, hz⟩ := I.tuple hq
    exact call_tuple_same pl ⟨.ref p, H, I, rfl, q⟩
end
abbrev EM := Env' → Mem → R D
abbrev TM := Env' → Mem → R Bool
abbrev AM := Env' → Mem → R (List D)
abbrev OM := Env' → Mem → R (Option Int)

/-! ### mirrors -/
def mVar (i : Nat) : EM := fun η m => match η[i]? with
  | some (some d) => .ok d m
  | _ => .stk
def mC (d : D) : EM := fun _ m => .ok d m
def mOp (g : D → D → Mem → R D) (a b : EM) : EM := fun η m => (a η m).bind fun x m1 => (b η m1).bind fun y m2 => g x y m2
def mUn (g : D → Mem → R D) (a : EM) : EM := fun η m => (a η m).bind fun x m1 => g x m1
def toB : D → Mem → R Bool
  | .bl b, m => .ok b m
  | _, _ => .stk
def mTest (a : EM) : TM := fun η m => (a η m).bind toB
def mAnd (a b : TM) : TM := fun η m => (a η m).bind fun x m1 => if x = true then b η m1 else .ok false m1
def mOr (a b : TM) : TM := fun η m => (a η m).bind fun x m1 => if x = true then .ok true m1 else b η m1
def mNot (a : TM) : TM := fun η m => (a η m).bind fun x m1 => .ok (!x) m1
def mAndV (a b : EM) : EM := fun η m => (a η m).bind fun x m1 => (toB x m1).bind fun k m2 => if k = true then b η m2 else .ok (.bl false) m2
def mOrV (a b : EM) : EM := fun η m => (a η m).bind fun x m1 => (toB x m1).bind fun k m2 => if k = true then .ok (.bl true) m2 else b η m2
def mNotV (a : EM) : EM := fun η m => (a η m).bind fun x m1 => (toB x m1).bind fun k m2 => .ok (.bl (!k)) m2
def mIf (c : TM) (a b : EM) : EM := fun η m => (c η m).bind fun k m1 => if k = true then a η m1 else b η m1
def mChain (g h : D → D → Mem → R D) (a b c : EM) : EM := fun η m => (a η m).bind fun x m1 => (b η m1).bind fun y m2 => (g x y m2).bind fun z m3 => (toB z m3).bind fun k m4 =>
  if k = true then (c η m4).bind fun w m5 => h y w m5 else .ok (.bl false) m4
def mNil : AM := fun _ m => .ok [] m
def mCons (a : EM) (b : AM) : AM := fun η m => (a η m).bind fun x m1 => (b η m1).bind fun xs m2 => .ok (x :: xs) m2
def mTup (a : AM) : EM := fun η m => (a η m).bind fun xs m1 => if xs.length ≤ sizeLine then .ok (.tup xs) m1 else .stk
def mLst (al : Bool) (a : AM) : EM := fun η m => (a η m).bind fun xs m1 => if xs.length ≤ sizeLine then mkL al xs m1 else .stk
def mCB (g : List D → Mem → R D) (a : AM) : EM := fun η m => (a η m).bind fun xs m1 => g xs m1
def mNoPart : OM := fun _ m => .ok none m
def mPart (a : EM) : OM := fun η m => (a η m).bind fun x m1 => match x with
  | .int i => .ok (some i) m1
  | _ => .stk
def mSl (g : D → Option Int → Option Int → Mem → R D) (a : EM) (lo hi : OM) : EM := fun η m => (a η m).bind fun x m1 => (lo η m1).bind fun l m2 => (hi η m2).bind fun u m3 => g x l u m3

section
variable {X : Cx} {E : XK} {a b c e : Expr} {ca cb cc : EM} {pos : Pos}
abbrev MEx (X : Cx) (E : XK) (e : Expr) (c : EM) : Prop := PE X e (rdE X.K X.mg E c)
abbrev MT (X : Cx) (E : XK) (e : Expr) (c : TM) : Prop := PT X e (rdT X.K X.mg E c)
abbrev MW (X : Cx) (E : XK) (e : Expr) (c : TM) : Prop := PW X e (rdT X.K X.mg E c)
abbrev MA (X : Cx) (E : XK) (e : List Expr) (c : AM) : Prop := PA X e (rdA X.K X.mg E c)
abbrev MO (X : Cx) (E : XK) (e : Option Expr) (c : OM) : Prop := PO X e (rd X.K X.mg E Same' c)

theorem me_var {i : Nat} (h : PE X e (tVar i)) : MEx X E e (mVar i) := h.imp fun σ H Q ⟨W, η, m, s, n, p⟩ => by
  unfold mVar at p
  cases hi : η[i]? with
  | none => rw [hi] at p; exact p.elim
  | some o =>
    cases o with
    | none => rw [hi] at p; exact p.elim
    | some d =>
      rw [hi] at p
      obtain ⟨v, e1, e2⟩ := n.2 i d hi
      exact ⟨v, e1, p.now s e2⟩
/-- the name in slot i -/
theorem mv (i : Nat) {x : Str} {pos : Pos} (hN : X.N[i]? = some x := by rfl) (hv : Vis X.env.scope x := by first | exact Or.inl rfl | exact Or.inr (Or.inl rfl) | exact Or.inr (Or.inr rfl)) (hd : (x == ("__debug__" : Str)) = false := by decide)
    (hcd : (x == ("__classdict__" : Str)) = false := by decide) : MEx X E (.Name x pos) (mVar i) := me_var (pe_var hN hv hd hcd)
theorem me_c {v : V} {d : D} (h : PE X e (tC v)) (hd : ∀ W H, Rep X.K W H d v) : MEx X E e (mC d) := h.imp fun σ H Q ⟨W, η, m, s, n, p⟩ => p.now s (hd W H)
theorem me_int {i j pos} : MEx X E (.Constant (.int i) j pos) (mC (.int i)) := me_c pe_int fun _ _ => rep_int
theorem me_bl {b j pos} : MEx X E (.Constant (.bool b) j pos) (mC (.bl b)) := me_c pe_bl fun _ _ => rep_bl
theorem me_non {j pos} : MEx X E (.Constant .none j pos) (mC .non) := me_c pe_non fun _ _ => rep_non
theorem me_str {x j pos} : MEx X E (.Constant (.str x) j pos) (mC (.str x)) := me_c pe_str fun _ _ => rep_str
/-- a constant of the module -/
structure GlobD (K : PySem.W.Frag) (mg : Str → Option Value) (x : Str) (d : D) : Prop where
  ex : ∃ u v, mg x = some u ∧ RelV v u ∧ ∀ W H, Rep K W H d v
theorem me_glob {x : Str} {d : D} {pos : Pos} (g : GlobD X.K X.mg x d) (hg : Gl X x) (hd : (x == ("__debug__" : Str)) = false := by decide) : MEx X E (.Name x pos) (mC d) := by
  obtain ⟨u, v, h1, h2, h3⟩ := g.ex
  exact me_c (pe_glob hg h1 h2 hd) h3

/-- operations on values, by their mirrors -/
def rM (K : PySem.W.Frag) (mg : Str → Option Value) (E : XK) (g : D → D → Mem → R D) : R2 := fun x y H Q => ∃ W m d e, Sim K mg W H m ∧ Rep K W H d x ∧ Rep K W H e y ∧ Post K mg E (Rep K) W H Q (g d e m)
abbrev OpM (X : Cx) (E : XK) (f : Value → Value → Sem Value) (g : D → D → Mem → R D) : Prop := OpR X f (rM X.K X.mg E g)
def rU1 (K : PySem.W.Frag) (mg : Str → Option Value) (E : XK) (g : D → Mem → R D) : V → Hp → VK → Prop := fun x H Q => ∃ W m d, Sim K mg W H m ∧ Rep K W H d x ∧ Post K mg E (Rep K) W H Q (g d m)
theorem two {g : D → D → Mem → R D} {σ : SL} {H : Hp} {Q : VK} (h : rdE X.K X.mg E (mOp g ca cb) σ H Q) : tOp (rM X.K X.mg E g) (rdE X.K X.mg E ca) (rdE X.K X.mg E cb) σ H Q := by
  obtain ⟨W, η, m, s, n, p⟩ := h
  refine ⟨W, η, m, s, n, (Post.bind (Rl := Rep X.K) p).imp fun x H1 ⟨W1, d, m1, e1, s1, r1, p1⟩ => ?_⟩
  refine ⟨W1, η, m1, s1, n.ext e1, (Post.bind (Rl := Rep X.K) p1).imp fun y H2 ⟨W2, d2, m2, e2, s2, r2, p2⟩ => ?_⟩
  exact ⟨W2, m2, d, d2, s2, r1.ext e2, r2, p2⟩
theorem me_op {op : Operator} {g : D → D → Mem → R D} (ho : OpM X E (binaryOp op) g) (ha : MEx X E a ca) (hb : MEx X E b cb) : MEx X E (.BinOp a op b pos) (mOp g ca cb) := (pe_op ho ha hb).imp fun _ _ _ h => two h
theorem me_un {op : UnaryOp} {g : D → Mem → R D} (ho : UnR X (unaryOp op) (rU1 X.K X.mg E g)) (ha : MEx X E a ca) : MEx X E (.UnaryOp op a pos) (mUn g ca) := (pe_un ho ha).imp fun σ H Q ⟨W, η, m, s, n, p⟩ =>
  ⟨W, η, m, s, n, (Post.bind (Rl := Rep X.K) p).imp fun x H1 ⟨W1, d, m1, e1, s1, r1, p1⟩ => ⟨W1, m1, d, s1, r1, p1⟩⟩
theorem me_cmp {op : CmpOp} {g : D → D → Mem → R D} (ho : OpM X E (compareOp op) g) (ha : MEx X E a ca) (hb : MEx X E b cb) (hm : behindInMarks op b = false) : MEx X E (.Compare a [op] [b] pos) (mOp g ca cb) := (pe_cmpR ho ha hb hm).imp fun _ _ _ h => two h
theorem toB_post {W : Wd} {H : Hp} {d : D} {m : Mem} {x : V} {Q : Bool → Hp → Prop} (s : Sim X.K X.mg W H m) (r : Rep X.K W H d x) (p : Post X.K X.mg E Same' W H Q (toB d m)) : ∃ k, x = .bl k ∧ Q k H := by
  cases d with
  | bl b => exact ⟨b, r.bl', p.now s rfl⟩
  | _ => exact p.elim
theorem test_of {c : EM} {t : TE} {σ : SL} {H : Hp} {Q : Bool → Hp → Prop} (ht : ∀ Q, rdE X.K X.mg E c σ H Q → t σ H Q) (h : rdT X.K X.mg E (mTest c) σ H Q) : tTest t σ H Q := by
  obtain ⟨W, η, m, s, n, p⟩ := h
  refine ht _ ⟨W, η, m, s, n, (Post.bind (Rl := Rep X.K) p).imp fun x H1 ⟨W1, d, m1, e1, s1, r1, p1⟩ => ?_⟩
  obtain ⟨k, e, q⟩ := toB_post s1 r1 p1
  exact ⟨k, e, q⟩
theorem mt_cmp {op : CmpOp} {g : D → D → Mem → R D} (ho : OpM X E (compareOp op) g) (ha : MEx X E a ca) (hb : MEx X E b cb) (hm : behindInMarks op b = false) : MT X E (.Compare a [op] [b] pos) (mTest (mOp g ca cb)) := (pt_cmpR ho ha hb hm).imp fun _ _ _ h => test_of (fun _ h => two h) h
theorem chain_of {g h : D → D → Mem → R D} {σ : SL} {H : Hp} {Q : VK} (z : rdE X.K X.mg E (mChain g h ca cb cc) σ H Q) : tChain (rM X.K X.mg E g) (rM X.K X.mg E h) (rdE X.K X.mg E ca) (rdE X.K X.mg E cb) (rdE X.K X.mg E cc) σ H Q := by
  obtain ⟨W, η, m, s, n, p⟩ := z
  refine ⟨W, η, m, s, n, (Post.bind (Rl := Rep X.K) p).imp fun x H1 ⟨W1, d, m1, e1, s1, r1, p1⟩ => ?_⟩
  refine ⟨W1, η, m1, s1, n.ext e1, (Post.bind (Rl := Rep X.K) p1).imp fun y H2 ⟨W2, d2, m2, e2, s2, r2, p2⟩ => ?_⟩
  refine ⟨W2, m2, d, d2, s2, r1.ext e2, r2, (Post.bind (Rl := Rep X.K) p2).imp fun z H3 ⟨W3, d3, m3, e3, s3, r3, p3⟩ => ?_⟩
  cases d3 with
  | bl k =>
    refine ⟨k, r3.bl', ?_⟩
    have p3 : Post X.K X.mg E (Rep X.K) W3 H3 Q (if k = true then (cc η m3).bind fun w m5 => h d2 w m5 else .ok (.bl false) m3) := p3
    cases k with
    | true =>
      rw [if_pos rfl] at p3 ⊢
      refine ⟨W3, η, m3, s3, ((n.ext e1).ext e2).ext e3, (Post.bind (Rl := Rep X.K) p3).imp fun w H4 ⟨W4, d4, m4, e4, s4, r4, p4⟩ => ?_⟩
      exact ⟨W4, m4, d2, d4, s4, (r2.ext e3).ext e4, r4, p4⟩
    | false =>
      rw [if_neg Bool.false_ne_true] at p3 ⊢
      exact p3.now s3 rep_bl
  | _ => exact p3.elim
theorem mt_chain {op op' : CmpOp} {g h : D → D → Mem → R D} (ho : OpM X E (compareOp op) g) (ho' : OpM X E (compareOp op') h) (ha : MEx X E a ca) (hb : MEx X E b cb) (hc : MEx X E c cc)
    (hm : lastMarks [op, op'] [b, c] = false := by with_unfolding_all rfl) : MT X E (.Compare a [op, op'] [b, c] pos) (mTest (mChain g h ca cb cc)) := (pt_chain ho ho' ha hb hc hm).imp fun _ _ _ z => test_of (fun _ h => chain_of h) z

/-! ### truth -/
def truD (m : Mem) : D → Option Bool
  | .non => some false
  | .bl b => some b
  | .int i => some (i != 0)
  | .str x => if x.length ≤ sizeLine then some ((x.length : Int) != 0) else none
  | .tup ds => some (!ds.isEmpty)
  | .lst ds => some (!ds.isEmpty)
  | .scr ds => some (!ds.isEmpty)
  | .ref i => match m[i]? with
    | some (.lst ds) => some (!ds.isEmpty)
    | some (.dK kvs) => some (!kvs.isEmpty)
    | _ => none
def mTru (a : EM) : TM := fun η m => (a η m).bind fun x m1 => match truD m1 x with
  | some b => .ok b m1
  | none => .stk
theorem reps_empty {W : Wd} {H : Hp} {ds : List D} {vs : List V} (r : Reps X.K W H ds vs) : (!ds.isEmpty) = !vs.isEmpty := by
  cases ds with
  | nil => rw [r.nil']; rfl
  | cons d ds => obtain ⟨v, r', rfl, _, _⟩ := r.cons'; rfl
theorem tru_of {W : Wd} {H : Hp} {m : Mem} {d : D} {v : V} {k : Bool} (s : Sim X.K X.mg W H m) (r : Rep X.K W H d v) (h : truD m d = some k) : TruV X.K v H k := by
  cases d with
  | non => rw [r.non']; cases h; rfl
  | bl b => rw [r.bl']; cases h; rfl
  | int i => rw [r.int']; cases h; rfl
  | str x =>
    rw [r.str']
    unfold truD at h
    by_cases q : x.length ≤ sizeLine
    · simp only [q, if_true] at h
      cases h
      exact ⟨q, rfl⟩
    · simp only [q, if_false] at h
      cases h
  | tup ds =>
    obtain ⟨a, vs, rfl, e2, e3⟩ := r.tup'
    cases h
    exact .inr (.inl ⟨vs, e2, reps_empty e3⟩)
  | lst ds =>
    obtain ⟨a, vs, rfl, e2, e3⟩ := r.lst'
    cases h
    exact .inl ⟨vs, .inl (.inl e2.1), reps_empty e3⟩
  | scr ds =>
    obtain ⟨a, vs, rfl, e2, e3⟩ := r.scr'
    cases h
    exact .inl ⟨vs, e2.sq, reps_empty e3⟩
  | ref i =>
    obtain ⟨a, rfl, e2⟩ := r.ref'
    simp only [truD] at h
    cases hm : m[i]? with
    | none => rw [hm] at h; cases h
    | some c =>
      rw [hm] at h
      have q := s.cell i a c e2 hm
      cases c with
      | lst xs =>
        cases h
        obtain ⟨vs, q1, q2⟩ := q
        exact .inl ⟨vs, .inl (.inl q1), reps_empty q2⟩
      | dK kvs =>
        cases h
        obtain ⟨vs, q1, q2, q3⟩ := q
        refine .inr (.inr ⟨vs, q1, ?_⟩)
        have := congrArg List.length q2
        simp only [List.length_map] at this
        cases vs <;> cases kvs <;> simp_all
      | _ => cases h
theorem mt_tru (ha : MEx X E a ca) (he : ∀ whole, isTrue a X.env whole = (do let v ← whole; standAt a.pos; holding [v] (truthy v)) := by intro _; rfl) : MT X E a (mTru ca) := (pt_truth ha he).imp fun σ H Q ⟨W, η, m, s, n, p⟩ =>
  ⟨W, η, m, s, n, (Post.bind (Rl := Rep X.K) p).imp fun x H1 ⟨W1, d, m1, e1, s1, r1, p1⟩ => by
    cases h : truD m1 d with
    | none => rw [h] at p1; exact p1.elim
    | some k => rw [h] at p1; exact ⟨k, tru_of s1 r1 h, p1.now s1 rfl⟩⟩

/-! ### and, or, not, if -/
theorem mt_not {ta : TM} (ha : MT X E a ta) : MT X E (.UnaryOp .Not a pos) (mNot ta) := (pt_not ha).imp fun σ H Q ⟨W, η, m, s, n, p⟩ =>
  ⟨W, η, m, s, n, (Post.bind (Rl := Same') p).imp fun x H1 ⟨W1, d, m1, e1, s1, r1, p1⟩ => by
    cases (show d = x from r1)
    exact p1.now s1 rfl⟩
theorem mw_and1 {ta : TM} (ha : MT X E a ta) : MW X E (.BoolOp .And [a] pos) ta := pw_and1 ha
theorem mw_or1 {ta : TM} (ha : MT X E a ta) : MW X E (.BoolOp .Or [a] pos) ta := pw_or1 ha
theorem mw_and {ta tb : TM} {rest : List Expr} (ha : MT X E a ta) (hb : MW X E (.BoolOp .And (b :: rest) pos) tb) : MW X E (.BoolOp .And (a :: b :: rest) pos) (mAnd ta tb) := (pw_and ha hb).imp fun σ H Q ⟨W, η, m, s, n, p⟩ =>
  ⟨W, η, m, s, n, (Post.bind (Rl := Same') p).imp fun x H1 ⟨W1, d, m1, e1, s1, r1, p1⟩ => by
    cases (show d = x from r1)
    cases x with
    | true => rw [if_pos rfl] at p1 ⊢; exact ⟨W1, η, m1, s1, n.ext e1, p1⟩
    | false => rw [if_neg Bool.false_ne_true] at p1 ⊢; exact p1.now s1 rfl⟩
theorem mw_or {ta tb : TM} {rest : List Expr} (ha : MT X E a ta) (hb : MW X E (.BoolOp .Or (b :: rest) pos) tb) : MW X E (.BoolOp .Or (a :: b :: rest) pos) (mOr ta tb) := (pw_or ha hb).imp fun σ H Q ⟨W, η, m, s, n, p⟩ =>
  ⟨W, η, m, s, n, (Post.bind (Rl := Same') p).imp fun x H1 ⟨W1, d, m1, e1, s1, r1, p1⟩ => by
    cases (show d = x from r1)
    cases x with
    | true => rw [if_pos rfl] at p1 ⊢; exact p1.now s1 rfl
    | false => rw [if_neg Bool.false_ne_true] at p1 ⊢; exact ⟨W1, η, m1, s1, n.ext e1, p1⟩⟩
theorem me_and {rest : List Expr} (ha : MEx X E a ca) (hb : MEx X E (.BoolOp .And (b :: rest) pos) cb) : MEx X E (.BoolOp .And (a :: b :: rest) pos) (mAndV ca cb) := (pe_and ha hb).imp fun σ H Q ⟨W, η, m, s, n, p⟩ =>
  ⟨W, η, m, s, n, (Post.bind (Rl := Rep X.K) p).imp fun x H1 ⟨W1, d, m1, e1, s1, r1, p1⟩ => by
    cases d with
    | bl k =>
      refine ⟨k, r1.bl', ?_⟩
      cases k with
      | true => rw [if_pos rfl]; exact ⟨W1, η, m1, s1, n.ext e1, p1⟩
      | false => rw [if_neg Bool.false_ne_true]; exact Post.now p1 s1 rep_bl
    | _ => exact p1.elim⟩
theorem me_or {rest : List Expr} (ha : MEx X E a ca) (hb : MEx X E (.BoolOp .Or (b :: rest) pos) cb) : MEx X E (.BoolOp .Or (a :: b :: rest) pos) (mOrV ca cb) := (pe_or ha hb).imp fun σ H Q ⟨W, η, m, s, n, p⟩ =>
  ⟨W, η, m, s, n, (Post.bind (Rl := Rep X.K) p).imp fun x H1 ⟨W1, d, m1, e1, s1, r1, p1⟩ => by
    cases d with
    | bl k =>
      refine ⟨k, r1.bl', ?_⟩
      cases k with
      | true => rw [if_pos rfl]; exact Post.now p1 s1 rep_bl
      | false => rw [if_neg Bool.false_ne_true]; exact ⟨W1, η, m1, s1, n.ext e1, p1⟩
    | _ => exact p1.elim⟩
theorem me_if {t : Expr} {tc : TM} (hc : MT X E t tc) (ha : MEx X E a ca) (hb : MEx X E b cb) : MEx X E (.IfExp t a b pos) (mIf tc ca cb) := (pe_ifExp hc ha hb).imp fun σ H Q ⟨W, η, m, s, n, p⟩ =>
  ⟨W, η, m, s, n, (Post.bind (Rl := Same') p).imp fun x H1 ⟨W1, d, m1, e1, s1, r1, p1⟩ => by
    cases (show d = x from r1)
    cases x with
    | true => rw [if_pos rfl] at p1 ⊢; exact ⟨W1, η, m1, s1, n.ext e1, p1⟩
    | false => rw [if_neg Bool.false_ne_true] at p1 ⊢; exact ⟨W1, η, m1, s1, n.ext e1, p1⟩⟩

/-! ### arguments, displays -/
theorem ma_nil : MA X E [] mNil := pa_nil.imp fun σ H Q ⟨W, η, m, s, n, p⟩ => p.now s reps_nil
theorem cons_of {ta : AM} {σ : SL} {H : Hp} {Q : List V → Hp → Prop} (h : rdA X.K X.mg E (mCons ca ta) σ H Q) : tCons (rdE X.K X.mg E ca) (rdA X.K X.mg E ta) σ H Q := by
  obtain ⟨W, η, m, s, n, p⟩ := h
  refine ⟨W, η, m, s, n, (Post.bind (Rl := Rep X.K) p).imp fun x H1 ⟨W1, d, m1, e1, s1, r1, p1⟩ => ?_⟩
  refine ⟨W1, η, m1, s1, n.ext e1, (Post.bind (Rl := Reps X.K) p1).imp fun y H2 ⟨W2, d2, m2, e2, s2, r2, p2⟩ => ?_⟩
  exact p2.now s2 (reps_cons (r1.ext e2) r2)
theorem ma_cons {es : List Expr} {ta : AM} (ha : MEx X E a ca) (hr : MA X E es ta) (hs : starEach (a :: es) X.env = (false, eval a X.env) :: starEach es X.env := by rfl) : MA X E (a :: es) (mCons ca ta) := (pa_cons ha hr hs).imp fun _ _ _ h => cons_of h
theorem me_tup {es : List Expr} {ta : AM} {k : Nat} (h : MA X E es ta) : MEx X E (.Tuple es k pos) (mTup ta) := (pe_tupF h).imp fun σ H Q ⟨W, η, m, s, n, p⟩ =>
  ⟨W, η, m, s, n, (Post.bind (Rl := Reps X.K) p).imp fun x H1 ⟨W1, d, m1, e1, s1, r1, p1⟩ => by
    by_cases q : d.length ≤ sizeLine
    · rw [if_pos q] at p1
      exact ⟨by rw [r1.length]; exact q, fun pp oo hp ho => s1.newT hp ho r1 p1⟩
    · rw [if_neg q] at p1
      exact p1.elim⟩
theorem me_lst (al : Bool) {es : List Expr} {ta : AM} (h : MA X E es ta) : MEx X E (.List es pos) (mLst al ta) := (pe_lst h).imp fun σ H Q ⟨W, η, m, s, n, p⟩ =>
  ⟨W, η, m, s, n, (Post.bind (Rl := Reps X.K) p).imp fun x H1 ⟨W1, d, m1, e1, s1, r1, p1⟩ => by
    by_cases q : d.length ≤ sizeLine
    · rw [if_pos q] at p1
      exact ⟨by rw [r1.length]; exact q, fun pp hp => s1.newL hp r1 p1⟩
    · rw [if_neg q] at p1
      exact p1.elim⟩
/-- calls of built-ins on values -/
def rCM (K : PySem.W.Frag) (mg : Str → Option Value) (E : XK) (g : List D → Mem → R D) : List V → Hp → VK → Prop := fun xs H Q => ∃ W m ds, Sim K mg W H m ∧ Reps K W H ds xs ∧ Post K mg E (Rep K) W H Q (g ds m)
theorem cb_of {g : List D → Mem → R D} {ta : AM} {σ : SL} {H : Hp} {Q : VK} (h : rdE X.K X.mg E (mCB g ta) σ H Q) : tCB (rCM X.K X.mg E g) (rdA X.K X.mg E ta) σ H Q := by
  obtain ⟨W, η, m, s, n, p⟩ := h
  exact ⟨W, η, m, s, n, (Post.bind (Rl := Reps X.K) p).imp fun x H1 ⟨W1, d, m1, e1, s1, r1, p1⟩ => ⟨W1, m1, d, s1, r1, p1⟩⟩
section
variable {g : List D → Mem → R D} {x : Str} {p : Pos} {es : List Expr} {ta : AM} {id T : String}
theorem me_callB (hc : CallR X (.builtin id) (rCM X.K X.mg E g)) (hm : X.mg x = none) (hg : Gl X x) (hv : bootBuiltins x = some (.builtin id)) (ha : MA X E (e :: es) ta) (hn : x ≠ "__name__" := by decide) (hdb : (x == ("__debug__" : Str)) = false := by decide)
    (he : starEach (e :: es) X.env = (false, eval e X.env) :: starEach es X.env := by rfl) (hpl : (backTo pos (starEach es X.env)).any (·.1) = false := by rfl) : MEx X E (.Call (.Name x p) (e :: es) [] pos) (mCB g ta) := (pe_callB hc hg hm hv ha hn hdb he hpl).imp fun _ _ _ h => cb_of h
theorem me_callTy (hc : CallR X (.type T) (rCM X.K X.mg E g)) (hm : X.mg x = none) (hg : Gl X x) (hv : bootBuiltins x = some (.type T)) (ha : MA X E (e :: es) ta) (hn : x ≠ "__name__" := by decide) (hdb : (x == ("__debug__" : Str)) = false := by decide)
    (he : starEach (e :: es) X.env = (false, eval e X.env) :: starEach es X.env := by rfl) (hpl : (backTo pos (starEach es X.env)).any (·.1) = false := by rfl) : MEx X E (.Call (.Name x p) (e :: es) [] pos) (mCB g ta) := (pe_callTy hc hg hm hv ha hn hdb he hpl).imp fun _ _ _ h => cb_of h
end
/-! ### subscripts -/
theorem me_ix {g : D → D → Mem → R D} (hr : IxR X (rM X.K X.mg E g)) (ha : MEx X E a ca) (hb : MEx X E b cb) (hs : PlainIx b) : MEx X E (.Subscript a b pos) (mOp g ca cb) := (pe_ix hr ha hb hs).imp fun _ _ _ h => two h
theorem mo_none : MO X E none mNoPart := ⟨fun pins s σ H Q I h => po_none.run pins s σ H Q I (by
  obtain ⟨W, η, m, s, n, p⟩ := h
  exact p.now s rfl)⟩
theorem mo_some (h : MEx X E a ca) : MO X E (some a) (mPart ca) := ⟨fun pins s σ H Q I h' => (po_some h).run pins s σ H Q I (by
  obtain ⟨W, η, m, s, n, p⟩ := h'
  refine ⟨W, η, m, s, n, (Post.bind (Rl := Rep X.K) p).imp fun x H1 ⟨W1, d, m1, e1, s1, r1, p1⟩ => ?_⟩
  cases d with
  | int i => exact ⟨i, r1.int', p1.now s1 rfl⟩
  | _ => exact p1.elim)⟩
def rSM (K : PySem.W.Frag) (mg : Str → Option Value) (E : XK) (g : D → Option Int → Option Int → Mem → R D) : V → Option Int → Option Int → Hp → VK → Prop := fun x lo hi H Q => ∃ W m d, Sim K mg W H m ∧ Rep K W H d x ∧ Post K mg E (Rep K) W H Q (g d lo hi m)
theorem me_sl {g : D → Option Int → Option Int → Mem → R D} {lo hi : Option Expr} {tl th : OM} {p2 : Pos} (hr : SlR X (rSM X.K X.mg E g)) (he : MEx X E a ca) (hl : MO X E lo tl) (hu : MO X E hi th) : MEx X E (.Subscript a (.Slice lo hi none p2) pos) (mSl g ca tl th) :=
  (pe_slice hr he hl hu).imp fun σ H Q ⟨W, η, m, s, n, p⟩ => by
    refine ⟨W, η, m, s, n, (Post.bind (Rl := Rep X.K) p).imp fun x H1 ⟨W1, d, m1, e1, s1, r1, p1⟩ => ?_⟩
    refine ⟨W1, η, m1, s1, n.ext e1, (Post.bind (Rl := Same') p1).imp fun y H2 ⟨W2, d2, m2, e2, s2, r2, p2⟩ => ?_⟩
    cases (show d2 = y from r2)
    refine ⟨W2, η, m2, s2, (n.ext e1).ext e2, (Post.bind (Rl := Same') p2).imp fun z H3 ⟨W3, d3, m3, e3, s3, r3, p3⟩ => ?_⟩
    cases (show d3 = z from r3)
    exact ⟨W3, m3, d, s3, (r1.ext e2).ext e3, p3⟩
end
end Mir

/-! Mir, statements, loops, comprehensions, calls. -/
namespace Mir
open PySem PySem.Spec PyProof.Rows L2

/-! ### from one heap to another -/
structure Tr (K : PySem.W.Frag) (W : Wd) (H : Hp) (W' : Wd) (H' : Hp) : Prop where
  rf : ∀ (i : Nat) (a : Addr), W.i[i]? = some a → W'.i[i]? = some a
  tp : ∀ a vs, SqF K H a vs → SqF K H' a vs
  ls : ∀ a (o : HO), (H a = some o ∧ a ∉ W.i ∧ a ∉ W.z) → (H' a = some o ∧ a ∉ W'.i ∧ a ∉ W'.z)
  sc : ∀ a vs, LIm K W H a vs → LIm K W' H' a vs
mutual
theorem Rep.tr {K : PySem.W.Frag} {W W' : Wd} {H H' : Hp} (e : Tr K W H W' H') : ∀ {d : D} {v : V}, Rep K W H d v → Rep K W' H' d v
  | .non, v, h => by unfold Rep at h ⊢; exact h
  | .bl b, v, h => by unfold Rep at h ⊢; exact h
  | .int i, v, h => by unfold Rep at h ⊢; exact h
  | .str x, v, h => by unfold Rep at h ⊢; exact h
  | .tup ds, v, h => by
    unfold Rep at h ⊢
    obtain ⟨a, vs, e1, e2, e3⟩ := h
    exact ⟨a, vs, e1, e.tp _ _ e2, Reps.tr e e3⟩
  | .lst ds, v, h => by
    unfold Rep at h ⊢
    obtain ⟨a, vs, e1, e2, e3⟩ := h
    exact ⟨a, vs, e1, e.ls _ _ e2, Reps.tr e e3⟩
  | .scr ds, v, h => by
    unfold Rep at h ⊢
    obtain ⟨a, vs, e1, e2, e3⟩ := h
    exact ⟨a, vs, e1, e.sc _ _ e2, Reps.tr e e3⟩
  | .ref i, v, h => by
    unfold Rep at h ⊢
    obtain ⟨a, e1, e2⟩ := h
    exact ⟨a, e1, e.rf _ _ e2⟩
theorem Reps.tr {K : PySem.W.Frag} {W W' : Wd} {H H' : Hp} (e : Tr K W H W' H') : ∀ {ds : List D} {vs : List V}, Reps K W H ds vs → Reps K W' H' ds vs
  | [], vs, h => by unfold Reps at h ⊢; exact h
  | d :: ds, vs, h => by
    unfold Reps at h ⊢
    obtain ⟨v, r, e1, e2, e3⟩ := h
    exact ⟨v, r, e1, Rep.tr e e2, Reps.tr e e3⟩
end
/-- more scratch addresses may be there -/
structure ExtZ (W : Wd) (H : Hp) (W' : Wd) (H' : Hp) : Prop where
  z : ∀ p ∈ W'.z, p ∉ W.z → H p = none
  zs : ∀ p ∈ W.z, p ∈ W'.z
  pre : ∃ t, W'.i = W.i ++ t
  new : ∀ a ∈ W'.i, a ∉ W.i → H a = none
  keep : ∀ a o, H a = some o → (immut o = true ∨ a ∉ W.i) → H' a = some o
theorem Ext.toZ {W W' : Wd} {H H' : Hp} (e : Ext W H W' H') : ExtZ W H W' H' := ⟨fun p hp hn => absurd (e.z ▸ hp) hn, fun p hp => e.z ▸ hp, e.pre, fun a h n => (e.new a h n).1, e.keep⟩
theorem ExtZ.trans {W W1 W2 : Wd} {H H1 H2 : Hp} (a : ExtZ W H W1 H1) (b : Ext W1 H1 W2 H2) : ExtZ W H W2 H2 := by
  obtain ⟨t1, e1⟩ := a.pre
  obtain ⟨t2, e2⟩ := b.pre
  refine ⟨fun p hp hn => a.z p (b.z ▸ hp) hn, fun p hp => b.z ▸ a.zs p hp, ⟨t1 ++ t2, by rw [e2, e1, List.append_assoc]⟩, fun x hx hn => ?_, fun x o h k => ?_⟩
  · by_cases h1 : x ∈ W1.i
    · exact a.new x h1 hn
    · have q := b.new x hx h1
      cases hh : H x with
      | none => rfl
      | some o =>
        have hz : x ∉ W.z := fun hz => q.2 (a.zs x hz)
        have := a.keep x o hh (.inr hn)
        rw [q.1] at this
        cases this
  · have h1 := a.keep x o h k
    refine b.keep x o h1 ?_
    rcases k with k | k1
    · exact .inl k
    · refine .inr fun hx => ?_
      have := a.new x hx k1
      rw [this] at h
      cases h
theorem ExtZ.tr {K : PySem.W.Frag} {W W' : Wd} {H H' : Hp} (e : ExtZ W H W' H') : Tr K W H W' H' := by
  have nn : ∀ a o, H a = some o → a ∉ W.i → a ∉ W.z → a ∉ W'.i ∧ a ∉ W'.z := fun a o h k1 k2 => by
    refine ⟨fun hx => ?_, fun hx => ?_⟩
    · have := e.new a hx k1
      rw [h] at this
      cases this
    · have := e.z a hx k2
      rw [h] at this
      cases this
  refine ⟨fun i a h => ?_, fun a vs h => ?_, fun a vs ⟨h, k1, k2⟩ => ⟨e.keep a _ h (.inr k1), nn a _ h k1 k2⟩, fun a vs h => ?_⟩
  · obtain ⟨t, et⟩ := e.pre
    rw [et, List.getElem?_append_left (List.getElem?_eq_some_iff.mp h).1]
    exact h
  · rcases h with ⟨o, h, k⟩ | h
    · exact .inl ⟨o, e.keep _ _ h (.inl rfl), k⟩
    · exact .inr h
  · rcases h with ⟨h | ⟨o, h⟩, k1, k2⟩ | h
    · exact .inl ⟨.inl (e.keep a _ h (.inr k1)), nn a _ h k1 k2⟩
    · exact .inl ⟨.inr ⟨o, e.keep a _ h (.inl rfl)⟩, nn a _ h k1 k2⟩
    · exact .inr h
theorem Rep.extZ {K : PySem.W.Frag} {W W' : Wd} {H H' : Hp} {d : D} {v : V} (e : ExtZ W H W' H') (h : Rep K W H d v) : Rep K W' H' d v := Rep.tr e.tr h
theorem Reps.extZ {K : PySem.W.Frag} {W W' : Wd} {H H' : Hp} {d : List D} {v : List V} (e : ExtZ W H W' H') (h : Reps K W H d v) : Reps K W' H' d v := Reps.tr e.tr h

/-- a value, or a tuple of which less is known -/
def RepW (K : PySem.W.Frag) (W : Wd) (H : Hp) (d : D) (v : V) : Prop := Rep K W H d v ∨ ∃ ds a vs, d = .tup ds ∧ v = .ref a ∧ SqT K H a vs ∧ Reps K W H ds vs
abbrev RX := PySem.W.Frag → Wd → Hp → D → V → Prop

/-! ### statements -/
inductive RS where
  | nxt (η : Env') (m : Mem) | ret (d : D) (m : Mem) | brk (η : Env') (m : Mem) | cnt (η : Env') (m : Mem) | exc (x : Exn) (m : Mem) | stk
abbrev SM := Env' → Mem → RS
abbrev GM := D → Env' → Mem → R Env'
abbrev GsM := List D → Env' → Mem → R Env'
def R.toS {α : Type} (r : R α) (f : α → Mem → RS) : RS := match r with
  | .ok a m => f a m
  | .exc x m => .exc x m
  | .stk => .stk
@[simp] theorem toS_ok {α : Type} (a : α) (m : Mem) (f : α → Mem → RS) : (R.ok a m).toS f = f a m := nr rfl
@[simp] theorem toS_exc {α : Type} (x : Exn) (m : Mem) (f : α → Mem → RS) : (R.exc x m : R α).toS f = .exc x m := nr rfl
@[simp] theorem toS_stk {α : Type} (f : α → Mem → RS) : (R.stk : R α).toS f = .stk := nr rfl
section
variable (K : PySem.W.Frag) (mg : Str → Option Value) (E : XK)
def PostS (W : Wd) (H : Hp) (Dn : Ends) : RS → Prop
  | .nxt η m => ∀ σ W' H', Ext W H W' H' → Sim K mg W' H' m → REnv K W' H' η σ → Dn.nx σ H'
  | .ret d m => ∀ v W' H', Ext W H W' H' → Sim K mg W' H' m → Rep K W' H' d v → Dn.rt v H'
  | .brk η m => ∀ σ W' H', Ext W H W' H' → Sim K mg W' H' m → REnv K W' H' η σ → Dn.bk σ H'
  | .cnt η m => ∀ σ W' H', Ext W H W' H' → Sim K mg W' H' m → REnv K W' H' η σ → Dn.ct σ H'
  | .exc x m => ∀ c o W' H', Ext W H W' H' → Sim K mg W' H' m → ExR K mg x W' H' c o → E c o H'
  | .stk => False
def rdS (c : SM) : TS := fun Dn σ H => ∃ W η m, Sim K mg W H m ∧ REnv K W H η σ ∧ PostS K mg E W H Dn (c η m)
/-- a target; only the slots vs change -/
def rdG (Rx : RX) (vs : List Nat) (g : GM) : TG := fun v σ H Q => ∃ W η m d, Sim K mg W H m ∧ REnv K W H η σ ∧ Rx K W H d v ∧ Post K mg E (fun W H η' σ' => REnv K W H η' σ' ∧ wipe σ' vs = wipe σ vs) W H Q (g d η m)
def rdGs (vs : List Nat) (g : GsM) : TGs := fun us σ H Q => ∃ W η m ds, Sim K mg W H m ∧ REnv K W H η σ ∧ Reps K W H ds us ∧ Post K mg E (fun W H η' σ' => REnv K W H η' σ' ∧ wipe σ' vs = wipe σ vs) W H Q (g ds η m)
end
section
variable {K : PySem.W.Frag} {mg : Str → Option Value} {E : XK} {W W' : Wd} {H H' : Hp} {Dn : Ends}
theorem PostS.ext {r : RS} (e : Ext W H W' H') (h : PostS K mg E W H Dn r) : PostS K mg E W' H' Dn r := by
  cases r with
  | nxt η m => exact fun σ W2 H2 e2 s q => h σ W2 H2 (e.trans e2) s q
  | ret d m => exact fun σ W2 H2 e2 s q => h σ W2 H2 (e.trans e2) s q
  | brk η m => exact fun σ W2 H2 e2 s q => h σ W2 H2 (e.trans e2) s q
  | cnt η m => exact fun σ W2 H2 e2 s q => h σ W2 H2 (e.trans e2) s q
  | exc x m => exact fun c o W2 H2 e2 s q => h c o W2 H2 (e.trans e2) s q
  | stk => exact h
theorem PostS.bind {α β : Type} {Rl : Wd → Hp → α → β → Prop} {r : R α} {f : α → Mem → RS} (h : PostS K mg E W H Dn (r.toS f)) :
    Post K mg E Rl W H (fun b H1 => ∃ W1 a m1, Ext W H W1 H1 ∧ Sim K mg W1 H1 m1 ∧ Rl W1 H1 a b ∧ PostS K mg E W1 H1 Dn (f a m1)) r := by
  cases r with
  | ok a m => exact fun b W2 H2 e2 s q => ⟨W2, a, m, e2, s, q, PostS.ext e2 h⟩
  | exc x m => exact h
  | stk => exact h
end
def mSkip : SM := fun η m => .nxt η m
def RS.seq (r : RS) (f : SM) : RS := match r with
  | .nxt η m => f η m
  | r => r
@[simp] theorem seq_nxt (η : Env') (m : Mem) (f : SM) : (RS.nxt η m).seq f = f η m := nr rfl
@[simp] theorem seq_ret (d : D) (m : Mem) (f : SM) : (RS.ret d m).seq f = .ret d m := nr rfl
@[simp] theorem seq_brk (η : Env') (m : Mem) (f : SM) : (RS.brk η m).seq f = .brk η m := nr rfl
@[simp] theorem seq_cnt (η : Env') (m : Mem) (f : SM) : (RS.cnt η m).seq f = .cnt η m := nr rfl
@[simp] theorem seq_exc (x : Exn) (m : Mem) (f : SM) : (RS.exc x m).seq f = .exc x m := nr rfl
@[simp] theorem seq_stk (f : SM) : RS.stk.seq f = .stk := nr rfl
def mSeq (a b : SM) : SM := fun η m => (a η m).seq b
def mRet (c : EM) : SM := fun η m => (c η m).toS fun d m1 => .ret d m1
def mDrop (c : EM) : SM := fun η m => (c η m).toS fun _ m1 => .nxt η m1
def mIfS (c : TM) (a b : SM) : SM := fun η m => (c η m).toS fun k m1 => if k = true then a η m1 else b η m1
def mAsg (c : EM) (g : GM) : SM := fun η m => (c η m).toS fun d m1 => (g d η m1).toS fun η' m2 => .nxt η' m2
def gNm (i : Nat) : GM := fun d η m => .ok (η.set i (some d)) m
def gsNil : GsM := fun ds η m => match ds with
  | [] => .ok η m
  | _ => .stk
def gsCons (g : GM) (r : GsM) : GsM := fun ds η m => match ds with
  | d :: ds => (g d η m).bind fun η1 m1 => r ds η1 m1
  | [] => .stk
def gTp (n : Nat) (g : GsM) : GM := fun d η m => match d with
  | .tup ds => if ds.length = n then g ds η m else .stk
  | _ => .stk
section
variable {X : Cx} {E : XK} {pos : Pos} {e : Expr} {ce : EM}
abbrev MS (X : Cx) (E : XK) (st : Stmt) (c : SM) : Prop := PS X st (rdS X.K X.mg E c)
abbrev MSs (X : Cx) (E : XK) (st : List Stmt) (c : SM) : Prop := PSs X st (rdS X.K X.mg E c)
abbrev MG (X : Cx) (E : XK) (Rx : RX) (vs : List Nat) (tg : Expr) (g : GM) : Prop := PG X tg (rdG X.K X.mg E Rx vs g)
abbrev MGs (X : Cx) (E : XK) (vs : List Nat) (tg : List Expr) (g : GsM) : Prop := PGs X tg (rdGs X.K X.mg E vs g)
theorem mss_nil : MSs X E [] mSkip := pss_nil.imp fun Dn σ H ⟨W, η, m, s, n, p⟩ => p σ W H (Ext.refl W H) s n
theorem mss_cons {st : Stmt} {rest : List Stmt} {c1 c2 : SM} (h1 : MS X E st c1) (h2 : MSs X E rest c2) : MSs X E (st :: rest) (mSeq c1 c2) := (pss_cons h1 h2).imp fun Dn σ H ⟨W, η, m, s, n, p⟩ => by
  refine ⟨W, η, m, s, n, ?_⟩
  unfold mSeq at p
  cases h : c1 η m with
  | nxt η1 m1 => rw [h] at p; exact fun σ1 W1 H1 e1 s1 n1 => ⟨W1, η1, m1, s1, n1, PostS.ext e1 p⟩
  | ret d m1 => rw [h] at p; exact p
  | brk η1 m1 => rw [h] at p; exact p
  | cnt η1 m1 => rw [h] at p; exact p
  | exc x m1 => rw [h] at p; exact p
  | stk => rw [h] at p; exact p
theorem mss_one {st : Stmt} {c1 : SM} (h1 : MS X E st c1) : MSs X E [st] c1 := pss_one h1
theorem ms_expr (he : MEx X E e ce) (hs : swapsWith e none pos.line X.env = pure false := by rfl) : MS X E (.Expr e pos) (mDrop ce) := (ps_expr he hs).imp fun Dn σ H ⟨W, η, m, s, n, p⟩ =>
  ⟨W, η, m, s, n, (PostS.bind (Rl := Rep X.K) p).imp fun x H1 ⟨W1, d, m1, e1, s1, r1, p1⟩ => p1 σ W1 H1 (Ext.refl _ _) s1 (n.ext e1)⟩
theorem ms_ret (he : MEx X E e ce) : MS X E (.Return (some e) pos) (mRet ce) := (ps_ret he).imp fun Dn σ H ⟨W, η, m, s, n, p⟩ =>
  ⟨W, η, m, s, n, (PostS.bind (Rl := Rep X.K) p).imp fun x H1 ⟨W1, d, m1, e1, s1, r1, p1⟩ => p1 x W1 H1 (Ext.refl _ _) s1 r1⟩
theorem ms_if {c : Expr} {a b : List Stmt} {tc : TM} {ca cb : SM} (hc : MT X E c tc) (ha : MSs X E a ca) (hb : MSs X E b cb) : MS X E (.If c a b pos) (mIfS tc ca cb) := (ps_if hc ha hb).imp fun Dn σ H ⟨W, η, m, s, n, p⟩ =>
  ⟨W, η, m, s, n, (PostS.bind (Rl := Same') p).imp fun x H1 ⟨W1, d, m1, e1, s1, r1, p1⟩ => by
    cases (show d = x from r1)
    cases x with
    | true => rw [if_pos rfl] at p1 ⊢; exact ⟨W1, η, m1, s1, n.ext e1, p1⟩
    | false => rw [if_neg Bool.false_ne_true] at p1 ⊢; exact ⟨W1, η, m1, s1, n.ext e1, p1⟩⟩
/-! ### targets -/
theorem wipe_none {σ : SL} : ∀ {vs : List Nat} {i : Nat} {x : Option V}, i ∈ vs → wipe (σ.set i x) vs = wipe σ vs
  | v :: vs, i, x, h => by
    unfold wipe
    by_cases hi : i ∈ vs
    · rw [wipe_none hi]
    · have e : i = v := by
        rcases List.mem_cons.mp h with h | h
        · exact h
        · exact absurd h hi
      subst e
      rw [wipe_set hi]
      apply List.ext_getElem?
      intro j
      by_cases hj : i = j
      · subst hj
        by_cases hl : i < (wipe σ vs).length
        · rw [List.getElem?_set_self (by rw [List.length_set]; exact hl), List.getElem?_set_self hl]
        · rw [List.getElem?_eq_none (by rw [List.length_set, List.length_set]; omega), List.getElem?_eq_none (by rw [List.length_set]; omega)]
      · rw [List.getElem?_set_ne hj, List.getElem?_set_ne hj, List.getElem?_set_ne hj]
where
  wipe_set {σ : SL} : ∀ {vs : List Nat} {i : Nat} {x : Option V}, i ∉ vs → wipe (σ.set i x) vs = (wipe σ vs).set i x
    | [], i, x, h => rfl
    | v :: vs, i, x, h => by
      unfold wipe
      rw [wipe_set (fun q => h (List.mem_cons_of_mem _ q))]
      exact List.set_comm _ _ (fun e => h (by rw [e]; exact List.mem_cons_self))
theorem wipe_wipe' {σ : SL} : ∀ {us vs : List Nat}, (∀ u ∈ us, u ∈ vs) → wipe (wipe σ us) vs = wipe σ vs
  | [], vs, _ => rfl
  | u :: us, vs, h => by
    show wipe ((wipe σ us).set u none) vs = _
    rw [wipe_none (h u List.mem_cons_self), wipe_wipe' fun x hx => h x (List.mem_cons_of_mem _ hx)]
theorem wipe_wipe {σ : SL} {vs : List Nat} : wipe (wipe σ vs) vs = wipe σ vs := wipe_wipe' fun _ h => h
theorem mg_name {vs : List Nat} {i : Nat} {x : Str} (hv : i ∈ vs) (hN : X.N.Nodup) (hi : X.N[i]? = some x) (hx : Loc X.env.scope x) (hf : X.fn x = true ∨ X.env.scope.names.lookup x = some .local := by first | exact .inl rfl | exact .inr rfl | assumption) : MG X E Rep vs (.Name x pos) (gNm i) := by
  refine ⟨fun pins s σ H v u Q I r h => (pg_name hN hi hx hf).run pins s σ H v u Q I r ?_⟩
  obtain ⟨W, η, m, d, s, n, rp, p⟩ := h
  exact p.now s ⟨n.set rp, wipe_none hv⟩
theorem mgs_nil {vs : List Nat} : MGs X E vs [] gsNil := by
  refine ⟨fun pins s σ H us u Q I r h => pgs_nil.run pins s σ H us u Q I r ?_⟩
  obtain ⟨W, η, m, ds, s, n, rp, p⟩ := h
  cases ds with
  | nil => exact ⟨rp.nil', p.now s ⟨n, rfl⟩⟩
  | cons d ds => exact p.elim
theorem mgs_cons {vs : List Nat} {es : List Expr} {g : GM} {gs : GsM} (h1 : MG X E Rep vs e g) (h2 : MGs X E vs es gs) (hs : (assignEach (e :: es) X.env).map (·.2) = assign e X.env :: (assignEach es X.env).map (·.2) := by rfl) : MGs X E vs (e :: es) (gsCons g gs) := by
  refine ⟨fun pins s σ H us u Q I r h => (pgs_cons h1 h2 hs).run pins s σ H us u Q I r ?_⟩
  obtain ⟨W, η, m, ds, s, n, rp, p⟩ := h
  cases ds with
  | nil => exact p.elim
  | cons d ds =>
    obtain ⟨v, vr, rfl, r1, r2⟩ := rp.cons'
    refine ⟨v, vr, rfl, W, η, m, d, s, n, r1, (Post.bind (Rl := fun W H η' σ' => REnv X.K W H η' σ' ∧ wipe σ' vs = wipe σ vs) p).imp fun σ1 H1 ⟨W1, η1, m1, e1, s1, n1, p1⟩ => ?_⟩
    refine ⟨W1, η1, m1, ds, s1, n1.1, r2.ext e1, ?_⟩
    rw [n1.2]
    exact p1
theorem mg_tupW {vs : List Nat} {es : List Expr} {k : Nat} {gs : GsM} {n : Nat} (hc : X.calm = true) (h : MGs X E vs es gs) (hn : (assignEach es X.env).length = n := by rfl) (hst : (assignEach es X.env).findIdx? (·.1) = none := by rfl) : MG X E RepW vs (.Tuple es k pos) (gTp n gs) := by
  refine ⟨fun pins s σ H us u Q I r h' => (pg_tup hc h hn hst).run pins s σ H us u Q I r ?_⟩
  obtain ⟨W, η, m, d, s, nn, rp, p⟩ := h'
  have key : ∀ ds, d = .tup ds → (∃ a vs, us = .ref a ∧ SqT X.K H a vs ∧ Reps X.K W H ds vs) → ∃ a xs, us = .ref a ∧ SqT X.K H a xs ∧ xs.length = n ∧ rdGs X.K X.mg E vs gs xs σ H Q := fun ds e ⟨a, xs, e1, q1, q2⟩ => by
    subst e
    have p : Post X.K X.mg E _ W H Q (if ds.length = n then gs ds η m else .stk) := p
    by_cases hl : ds.length = n
    · rw [if_pos hl] at p
      exact ⟨a, xs, e1, q1, by rw [q2.length]; exact hl, W, η, m, ds, s, nn, q2, p⟩
    · rw [if_neg hl] at p
      exact p.elim
  rcases rp with rp | ⟨ds, a, xs, e0, e1, q1, q2⟩
  · cases d with
    | tup ds => exact key ds rfl rp.tup'
    | _ => exact p.elim
  · exact key ds e0 ⟨a, xs, e1, q1, q2⟩
theorem mg_w {vs : List Nat} {tg : Expr} {g : GM} (h : MG X E RepW vs tg g) : MG X E Rep vs tg g := ⟨fun pins s σ H v u Q I r h' => h.run pins s σ H v u Q I r (by
  obtain ⟨W, η, m, d, s, nn, rp, p⟩ := h'
  exact ⟨W, η, m, d, s, nn, .inl rp, p⟩)⟩
theorem mg_tup {vs : List Nat} {es : List Expr} {k : Nat} {gs : GsM} {n : Nat} (hc : X.calm = true) (h : MGs X E vs es gs) (hn : (assignEach es X.env).length = n := by rfl) (hst : (assignEach es X.env).findIdx? (·.1) = none := by rfl) : MG X E Rep vs (.Tuple es k pos) (gTp n gs) := mg_w (mg_tupW hc h hn hst)
theorem ms_asg {vs : List Nat} {tg : Expr} {g : GM} (he : MEx X E e ce) (hg : MG X E Rep vs tg g) (hs : swapsWithSole [tg] e pos.line X.env = pure false := by rfl) (hw : swappedStores [tg] e X.env = pure none := by rfl)
    (h1 : (assignEach [tg] X.env).map (·.2) = [assign tg X.env] := by rfl) : MS X E (.Assign [tg] e pos) (mAsg ce g) := (ps_asg he hg hs hw h1).imp fun Dn σ H ⟨W, η, m, s, n, p⟩ =>
  ⟨W, η, m, s, n, (PostS.bind (Rl := Rep X.K) p).imp fun x H1 ⟨W1, d, m1, e1, s1, r1, p1⟩ =>
    ⟨W1, η, m1, d, s1, n.ext e1, r1, (PostS.bind (Rl := fun W H η' σ' => REnv X.K W H η' σ' ∧ wipe σ' vs = wipe σ vs) p1).imp fun σ2 H2 ⟨W2, η2, m2, e2, s2, n2, p2⟩ => p2 σ2 W2 H2 (Ext.refl _ _) s2 n2.1⟩⟩
theorem ms_set {i : Nat} {x : Str} {pos' : Pos} (hN : X.N.Nodup) (hi : X.N[i]? = some x) (hx : Loc X.env.scope x) (he : MEx X E e ce) (hs : swapsWith e (some (.Name x pos')) pos.line X.env = pure false := by rfl) (hf : X.fn x = true ∨ X.env.scope.names.lookup x = some .local := by first | exact .inl rfl | exact .inr rfl | assumption) :
    MS X E (.Assign [.Name x pos'] e pos) (mAsg ce (gNm i)) := (ps_set hN hi hx he hs hf).imp fun Dn σ H ⟨W, η, m, s, n, p⟩ =>
  ⟨W, η, m, s, n, (PostS.bind (Rl := Rep X.K) p).imp fun x H1 ⟨W1, d, m1, e1, s1, r1, p1⟩ => p1 _ W1 H1 (Ext.refl _ _) s1 ((n.ext e1).set r1)⟩
end

/-! ### loops -/
abbrev Src := Nat → Mem → Option (Option D)
abbrev IM := Env' → Mem → R (Src × Nat)
structure JOk (K : PySem.W.Frag) (mg : Str → Option Value) (Rx : RX) (W₀ : Wd) (H₀ : Hp) (J : It) (src : Src) : Prop where
  go : ∀ W H m k d, ExtZ W₀ H₀ W H → Sim K mg W H m → src k m = some (some d) → J.go k H ∧ ∀ x H', J.yld k H x H' → ∃ W', Ext W H W' H' ∧ Sim K mg W' H' m ∧ Rx K W' H' d x
  stop : ∀ W H m k, ExtZ W₀ H₀ W H → Sim K mg W H m → src k m = some none → J.stop k H
def RlI (K : PySem.W.Frag) (mg : Str → Option Value) (Rx : RX) (W : Wd) (H : Hp) (p : Src × Nat) (J : It) : Prop := JOk K mg Rx W H J p.1
abbrev MI (X : Cx) (E : XK) (Rx : RX) (tg it : Expr) (c : IM) : Prop := PI X tg it (rd X.K X.mg E (RlI X.K X.mg Rx) c)
def mLoop (src : Src) (g : GM) (body : SM) : Nat → Nat → Env' → Mem → RS
  | 0, k, η, m => match src k m with
    | some none => .nxt η m
    | _ => .stk
  | f + 1, k, η, m => match src k m with
    | none => .stk
    | some none => .nxt η m
    | some (some d) => (g d η m).toS fun η1 m1 => match body η1 m1 with
      | .nxt η2 m2 => mLoop src g body f (k + 1) η2 m2
      | .cnt η2 m2 => mLoop src g body f (k + 1) η2 m2
      | .brk η2 m2 => .nxt η2 m2
      | r => r
def mFor (ci : IM) (g : GM) (body : SM) : SM := fun η m => (ci η m).toS fun p m1 => mLoop p.1 g body p.2 0 η m1
section
variable {X : Cx} {E : XK} {pos : Pos}
theorem ms_for {Rx : RX} {vs : List Nat} {tg it : Expr} {body : List Stmt} {ci : IM} {g : GM} {cb : SM} (hp : PassesOwn (model X.prog X.w) X.A X.env X.xe) (hc : X.calm = true) (hi : MI X E Rx tg it ci) (hg : MG X E Rx vs tg g) (hb : MSs X E body cb) (hs : ∀ x, foldedSetIterable it X.env x = pure x := by intro _; rfl) : MS X E (.For tg it body [] pos) (mFor ci g cb) := by
  refine (ps_for hp hc hi hg hb hs).imp fun Dn σ H ⟨W, η, m, s, n, p⟩ => ?_
  refine ⟨W, η, m, s, n, (PostS.bind (Rl := RlI X.K X.mg Rx) p).imp fun J H1 ⟨W1, q1, m1, e1, s1, j1, p1⟩ => ?_⟩
  obtain ⟨src, fuel⟩ := q1
  have j1 : JOk X.K X.mg Rx W1 H1 J src := j1
  have p1 : PostS X.K X.mg E W1 H1 Dn (mLoop src g cb fuel 0 η m1) := p1
  refine ⟨fun i f σ H => ∃ W η m, Ext W1 H1 W H ∧ Sim X.K X.mg W H m ∧ REnv X.K W H η σ ∧ PostS X.K X.mg E W H Dn (mLoop src g cb f i η m), ⟨fuel, W1, η, m1, Ext.refl _ _, s1, n.ext e1, p1⟩, fun i f σ H ⟨W, η, m, e2, s2, n2, p2⟩ => ?_⟩
  cases hs : src i m with
  | none => cases f <;> (unfold mLoop at p2; rw [hs] at p2; exact p2.elim)
  | some o =>
    cases o with
    | none =>
      refine .inl ⟨j1.stop W H m i e2.toZ s2 hs, ?_⟩
      cases f <;> (unfold mLoop at p2; rw [hs] at p2; exact p2 σ W H (Ext.refl _ _) s2 n2)
    | some d =>
      cases f with
      | zero => unfold mLoop at p2; rw [hs] at p2; exact p2.elim
      | succ f =>
        unfold mLoop at p2
        rw [hs] at p2
        obtain ⟨g1, g2⟩ := j1.go W H m i d e2.toZ s2 hs
        refine .inr ⟨g1, fun σ' H' => ∃ W η m, Ext W1 H1 W H' ∧ Sim X.K X.mg W H' m ∧ REnv X.K W H' η σ' ∧ PostS X.K X.mg E W H' Dn (mLoop src g cb f (i + 1) η m), fun σ' H' h => ⟨f, Nat.lt_succ_self f, h⟩, fun x H' hy => ?_⟩
        obtain ⟨W3, e3, s3, r3⟩ := g2 x H' hy
        refine ⟨W3, η, m, d, s3, n2.ext e3, r3, (PostS.bind (Rl := fun W H η' σ' => REnv X.K W H η' σ' ∧ wipe σ' vs = wipe σ vs) (PostS.ext e3 p2)).imp fun σ4 H4 ⟨W4, η4, m4, e4, s4, n4, p4⟩ => ?_⟩
        refine ⟨W4, η4, m4, s4, n4.1, ?_⟩
        have e34 := (e2.trans e3).trans e4
        revert p4
        generalize cb η4 m4 = r
        intro p4
        cases r with
        | nxt η5 m5 => exact fun σ5 W5 H5 e5 s5 n5 => ⟨W5, η5, m5, e34.trans e5, s5, n5, PostS.ext e5 p4⟩
        | cnt η5 m5 => exact fun σ5 W5 H5 e5 s5 n5 => ⟨W5, η5, m5, e34.trans e5, s5, n5, PostS.ext e5 p4⟩
        | brk η5 m5 => exact p4
        | ret d5 m5 => exact p4
        | exc x5 m5 => exact p4
        | stk => exact p4
end

/-! ### comprehensions -/
def noX {α : Type} : R α → R α
  | .exc _ _ => .stk
  | r => r
@[simp] theorem noX_ok {α : Type} (a : α) (m : Mem) : noX (.ok a m) = .ok a m := nr rfl
@[simp] theorem noX_stk {α : Type} : noX (.stk : R α) = .stk := nr rfl
@[simp] theorem noX_exc {α : Type} (x : Exn) (m : Mem) : noX (.exc x m : R α) = .stk := nr rfl
theorem Post.nox {K : PySem.W.Frag} {mg : Str → Option Value} {E E' : XK} {W : Wd} {H : Hp} {α β : Type} {Rl : Wd → Hp → α → β → Prop} {Q : β → Hp → Prop} {r : R α} (h : Post K mg E Rl W H Q (noX r)) : Post K mg E' Rl W H Q r := by
  cases r with
  | ok a m => exact h
  | exc x m => exact h.elim
  | stk => exact h.elim
def wipeE (η : Env') : List Nat → Env'
  | [] => η
  | v :: vs => (wipeE η vs).set v none
theorem REnv.wipe {K : PySem.W.Frag} {W : Wd} {H : Hp} {η : Env'} {σ : SL} (h : REnv K W H η σ) : ∀ vs : List Nat, REnv K W H (wipeE η vs) (L2.wipe σ vs)
  | [] => h
  | v :: vs => by
    have ih := h.wipe vs
    refine ⟨?_, fun i d q => ?_⟩
    · show ((wipeE η vs).set v none).length = ((L2.wipe σ vs).set v none).length
      rw [List.length_set, List.length_set]
      exact ih.1
    · have q : ((wipeE η vs).set v none)[i]? = some (some d) := q
      by_cases hv : v = i
      · subst hv
        by_cases hl : v < (wipeE η vs).length
        · rw [List.getElem?_set_self hl] at q
          cases q
        · rw [List.getElem?_eq_none (by rw [List.length_set]; omega)] at q
          cases q
      · rw [List.getElem?_set_ne hv] at q
        obtain ⟨u, a, b⟩ := ih.2 i d q
        refine ⟨u, ?_, b⟩
        show ((L2.wipe σ vs).set v none)[i]? = _
        rw [List.getElem?_set_ne hv]
        exact a
def mLcL (src : Src) (g : GM) (t : TM) (e : EM) (η : Env') : Nat → Nat → Mem → List D → R (List D)
  | 0, k, m, acc => match src k m with
    | some none => .ok acc m
    | _ => .stk
  | f + 1, k, m, acc => match src k m with
    | none => .stk
    | some none => .ok acc m
    | some (some d) => (noX (g d η m)).bind fun η1 m1 => (noX (t η1 m1)).bind fun b m2 =>
      if b = true then (noX (e η1 m2)).bind fun y m3 => if acc.length < sizeLine then mLcL src g t e η f (k + 1) m3 (acc ++ [y]) else .stk
      else mLcL src g t e η f (k + 1) m2 acc
def mLc (vs : List Nat) (al : Bool) (ci : IM) (g : GM) (t : TM) (e : EM) : EM := fun η m => (ci η m).bind fun p m1 => (mLcL p.1 g t e (wipeE η vs) p.2 0 m1 []).bind fun acc m2 => mkL al acc m2
def mYes : TM := fun _ m => .ok true m
/-- a scratch address more -/
def Wd.scr (W : Wd) (p : Addr) : Wd := ⟨W.i, p :: W.z⟩
section
variable {K : PySem.W.Frag} {mg : Str → Option Value} {W W' : Wd} {H H' : Hp} {m : Mem} {p : Addr} {o o' : HO}
theorem ExtZ.scr (s : Sim K mg W H m) (h : H p = none) : ExtZ W H (W.scr p) (upd H p o) :=
  ⟨fun a ha hn => by
    rcases List.mem_cons.mp ha with e | e
    · rw [e]; exact h
    · exact absurd e hn, fun a ha => List.mem_cons_of_mem _ ha, ⟨[], by simp [Wd.scr]⟩, fun a ha hn => absurd ha hn, fun a u e _ => by rw [upd_ne (ne_of_none e h)]; exact e⟩
theorem _root_.Mir.XFs.tr {fs : List (Str × D)} {o : Option Addr} (e : Tr K W H W' H') (h : XFs K W H fs o) : XFs K W' H' fs o := by
  rcases h with h | ⟨d, gs, e1, e2, e3, e4⟩
  · exact .inl h
  · exact .inr ⟨d, gs, e1, e.ls _ _ e2, e3, Reps.tr e e4⟩
theorem CellOk.tr {a : Addr} {c : Cell} (e : Tr K W H W' H') (ha : H' a = H a) (h : CellOk K mg W H a c) : CellOk K mg W' H' a c := by
  cases c with
  | lst ds => obtain ⟨vs, e1, e2⟩ := h; exact ⟨vs, ha.trans e1, Reps.tr e e2⟩
  | dK kvs => obtain ⟨vs, e1, e2, e3⟩ := h; exact ⟨vs, ha.trans e1, e2, Reps.tr e e3⟩
  | dT kvs => obtain ⟨vs, e1, e2, e3, e4⟩ := h; exact ⟨vs, ha.trans e1, e2, fun x hx => e.tp _ _ (e3 x hx), Reps.tr e e4⟩
  | dKz kvs => obtain ⟨o, vs, e1, e2, e3⟩ := h; exact ⟨o, vs, ha.trans e1, e2, Reps.tr e e3⟩
  | dTz kvs => obtain ⟨o, vs, e1, e2, e3, e4⟩ := h; exact ⟨o, vs, ha.trans e1, e2, fun x hx => e.tp _ _ (e3 x hx), Reps.tr e e4⟩
  | ins c fs => obtain ⟨C, dx, fs', e0, e1, e2, e3⟩ := h; exact ⟨C, dx, fs', e0, ha.trans e1, e2, Reps.tr e e3⟩
  | exc c fs => obtain ⟨C, o, e0, e1, e2⟩ := h; exact ⟨C, o, e0, ha.trans e1, e2.tr e⟩
theorem Sim.scr (s : Sim K mg W H m) (h : H p = none) : Sim K mg (W.scr p) (upd H p o) m :=
  ⟨s.nd, s.len, fun i a c e1 e2 => (s.cell i a c e1 e2).tr (ExtZ.scr s h).tr (by
    obtain ⟨u, e, _⟩ := (s.cell i a c e1 e2).mut
    exact upd_ne (ne_of_none e h)), fun a ha hz => by
    rcases List.mem_cons.mp hz with e | e
    · rw [e] at ha
      exact s.nin h ha
    · exact s.sep a ha e, fun a ha => by
    rcases List.mem_cons.mp ha with e | e
    · rw [e]; exact ⟨_, upd_same⟩
    · exact upd_some (s.zs a e)⟩
/-- the scratch object changes -/
theorem Tr.scr (hp : p ∈ W.z) (h : H p = some o) (hi : immut o = false) : Tr K W H W (upd H p o') := by
  refine ⟨fun _ _ h => h, fun a vs k => ?_, fun a vs k => ?_, fun a vs k => ?_⟩
  · rcases k with ⟨u, k, k2⟩ | k
    · exact .inl ⟨u, by
        rw [upd_ne (fun e => by subst e; rw [h] at k; cases k; cases hi)]
        exact k, k2⟩
    · exact .inr k
  · have : a ≠ p := fun e => k.2.2 (e ▸ hp)
    exact ⟨by rw [upd_ne this]; exact k.1, k.2⟩
  · rcases k with ⟨k, k1, k2⟩ | k
    · have : a ≠ p := fun e => k2 (e ▸ hp)
      refine .inl ⟨?_, k1, k2⟩
      rcases k with k | ⟨u, k⟩
      · exact .inl (by rw [upd_ne this]; exact k)
      · exact .inr ⟨u, by rw [upd_ne this]; exact k⟩
    · exact .inr k
theorem Sim.mscr (s : Sim K mg W H m) (hp : p ∈ W.z) (h : H p = some o) (hi : immut o = false) : Sim K mg W (upd H p o') m :=
  ⟨s.nd, s.len, fun i a c e1 e2 => (s.cell i a c e1 e2).tr (Tr.scr hp h hi) (upd_ne fun e => s.sep a (List.mem_of_getElem? e1) (e ▸ hp)), s.sep, fun a ha => upd_some (s.zs a ha)⟩
theorem ExtZ.mscr {W₀ : Wd} {H₀ : Hp} (e : ExtZ W₀ H₀ W H) (hp : H₀ p = none) : ExtZ W₀ H₀ W (upd H p o') :=
  ⟨e.z, e.zs, e.pre, e.new, fun a u q k => by rw [upd_ne (ne_of_none q hp)]; exact e.keep a u q k⟩
/-- the scratch address is given back -/
theorem Tr.unscr : Tr K (W.scr p) H W H := by
  refine ⟨fun _ _ h => h, fun _ _ h => h, fun a vs h => ⟨h.1, h.2.1, fun q => h.2.2 (List.mem_cons_of_mem _ q)⟩, fun a vs h => ?_⟩
  rcases h with ⟨k, k1, k2⟩ | k
  · exact .inl ⟨k, k1, fun q => k2 (List.mem_cons_of_mem _ q)⟩
  · exact .inr k
theorem Sim.unscr (s : Sim K mg (W.scr p) H m) : Sim K mg W H m :=
  ⟨s.nd, s.len, fun i a c e1 e2 => (s.cell i a c e1 e2).tr Tr.unscr rfl, fun a ha hz => s.sep a ha (List.mem_cons_of_mem _ hz), fun a ha => s.zs a (List.mem_cons_of_mem _ ha)⟩
end
section
variable {X : Cx} {E : XK} {pos : Pos}
theorem lc_of {Rx : RX} {vs : List Nat} {al : Bool} {ci : IM} {g : GM} {t : TM} {e : EM} {σ : SL} {H : Hp} {Q : VK} (h : rdE X.K X.mg E (mLc vs al ci g t e) σ H Q) :
    tLc (rd X.K X.mg E (RlI X.K X.mg Rx) ci) (rdG X.K X.mg E0 Rx vs g) (rdT X.K X.mg E0 t) (rdE X.K X.mg E0 e) vs σ H Q := by
  obtain ⟨W, η, m, s, n, p⟩ := h
  refine ⟨W, η, m, s, n, (Post.bind (Rl := RlI X.K X.mg Rx) p).imp fun J H1 ⟨W1, q1, m1, e1, s1, j1, p1⟩ => ?_⟩
  obtain ⟨src, fuel⟩ := q1
  have j1 : JOk X.K X.mg Rx W1 H1 J src := j1
  intro A hA
  have n1 := n.ext e1
  have p1 : Post X.K X.mg E (Rep X.K) W1 H1 Q ((mLcL src g t e (wipeE η vs) fuel 0 m1 []).bind fun acc m2 => mkL al acc m2) := p1
  refine ⟨fun i f H => ∃ W m acc as, ExtZ W1 H1 (W.scr A) H ∧ Ext W1 H1 W H ∧ Sim X.K X.mg (W.scr A) H m ∧ H A = some (.lst as) ∧ Reps X.K (W.scr A) H acc as ∧ acc.length ≤ sizeLine ∧
      Post X.K X.mg E (Rep X.K) W1 H1 Q ((mLcL src g t e (wipeE η vs) f i m acc).bind fun acc m2 => mkL al acc m2),
    ⟨fuel, W1, m1, [], [], ExtZ.scr s1 hA, Ext.fresh hA, s1.scr hA, upd_same, reps_nil, Nat.zero_le _, p1⟩, fun i f H ⟨W, m, acc, as, ez, ex, s2, hAs, ra, hl, p2⟩ => ?_⟩
  have hAz : A ∈ (W.scr A).z := List.mem_cons_self
  have nW : REnv X.K (W.scr A) H (wipeE η vs) (L2.wipe σ vs) := by
    have := n1.wipe vs
    exact ⟨this.1, fun j d q => let ⟨v, a, b⟩ := this.2 j d q; ⟨v, a, b.extZ ez⟩⟩
  have fin : Post X.K X.mg E (Rep X.K) W1 H1 Q (mkL al acc m) → Q (.ref A) H := fun q => by
    have s3 := s2.unscr
    have hni : A ∉ W.i := fun hx => s2.sep A hx hAz
    have hz : A ∉ W.z := by
      rw [ex.z]
      exact s1.ninz hA
    have ra' := Reps.tr (Tr.unscr) ra
    cases al with
    | false => exact q (.ref A) W H ex s3 (rep_lst ⟨hAs, hni, hz⟩ ra')
    | true =>
      have e3 : Ext W1 H1 (W.add A) H := by
        obtain ⟨tt, et⟩ := ex.pre
        refine ⟨ex.z, ⟨tt ++ [A], by show W.i ++ [A] = _; rw [et, List.append_assoc]⟩, fun a ha hn => ?_, ex.keep⟩
        rcases List.mem_append.mp ha with ha | ha
        · exact ex.new a ha hn
        · have : a = A := by simpa using ha
          subst this
          exact ⟨hA, s1.ninz hA⟩
      have tr : Tr X.K (W.scr A) H (W.add A) H := by
        refine ⟨fun j a h => ?_, fun _ _ h => h, fun a vs h => ⟨h.1, fun ha => ?_, fun q => h.2.2 (List.mem_cons_of_mem _ q)⟩, fun a vs h => ?_⟩
        · have h : W.i[j]? = some a := h
          show (W.i ++ [A])[j]? = some a
          rw [List.getElem?_append_left (List.getElem?_eq_some_iff.mp h).1]
          exact h
        · rcases List.mem_append.mp ha with ha | ha
          · exact h.2.1 ha
          · have : a = A := by simpa using ha
            exact h.2.2 (this ▸ hAz)
        · rcases h with ⟨k, k1, k2⟩ | k
          · refine .inl ⟨k, fun ha => ?_, fun q => k2 (List.mem_cons_of_mem _ q)⟩
            rcases List.mem_append.mp ha with ha | ha
            · exact k1 ha
            · have : a = A := by simpa using ha
              exact k2 (this ▸ hAz)
          · exact .inr k
      refine q (.ref A) (W.add A) H e3 ⟨?_, ?_, fun j a c h1 h2 => ?_, fun a ha => ?_, s3.zs⟩ (rep_ref ?_)
      · refine List.nodup_append.mpr ⟨s3.nd, by simp, fun a ha b hb => ?_⟩
        rintro rfl
        have : a = A := by simpa using hb
        exact hni (this ▸ ha)
      · show (W.i ++ [A]).length = (m ++ [Cell.lst acc]).length
        rw [List.length_append, List.length_append, s3.len]
        rfl
      · have h1 : (W.i ++ [A])[j]? = some a := h1
        by_cases hj : j < W.i.length
        · rw [List.getElem?_append_left hj] at h1
          rw [List.getElem?_append_left (by rw [← s3.len]; exact hj)] at h2
          exact (s2.cell j a c h1 h2).tr tr rfl
        · have hj' : j = W.i.length := by
            have := (List.getElem?_eq_some_iff.mp h1).1
            rw [List.length_append] at this
            simp at this
            omega
          subst hj'
          rw [List.getElem?_append_right (Nat.le_refl _), Nat.sub_self] at h1
          rw [s3.len, List.getElem?_append_right (Nat.le_refl _), Nat.sub_self] at h2
          simp at h1 h2
          subst h1
          subst h2
          exact ⟨as, hAs, Reps.tr tr ra⟩
      · rcases List.mem_append.mp ha with ha | ha
        · exact s3.sep a ha
        · have : a = A := by simpa using ha
          rw [this]
          exact hz
      · show (W.i ++ [A])[m.length]? = some A
        rw [← s3.len, List.getElem?_append_right (Nat.le_refl _), Nat.sub_self]
        rfl
  cases hs : src i m with
  | none => cases f <;> (unfold mLcL at p2; rw [hs] at p2; exact p2.elim)
  | some o =>
    cases o with
    | none =>
      refine .inl ⟨j1.stop _ H m i ez s2 hs, fin ?_⟩
      cases f <;> (unfold mLcL at p2; rw [hs] at p2; exact p2)
    | some d =>
      cases f with
      | zero => unfold mLcL at p2; rw [hs] at p2; exact p2.elim
      | succ f =>
        unfold mLcL at p2
        rw [hs] at p2
        dsimp only at p2
        obtain ⟨g1, g2⟩ := j1.go _ H m i d ez s2 hs
        refine .inr ⟨g1, fun H' => ∃ W m acc as, ExtZ W1 H1 (W.scr A) H' ∧ Ext W1 H1 W H' ∧ Sim X.K X.mg (W.scr A) H' m ∧ H' A = some (.lst as) ∧ Reps X.K (W.scr A) H' acc as ∧ acc.length ≤ sizeLine ∧
          Post X.K X.mg E (Rep X.K) W1 H1 Q ((mLcL src g t e (wipeE η vs) f (i + 1) m acc).bind fun acc m2 => mkL al acc m2), fun H' h => ⟨f, Nat.lt_succ_self f, h⟩, fun x H' hy => ?_⟩
        obtain ⟨W3, e3, s3, r3⟩ := g2 x H' hy
        -- the scratch list stays through a step
        have keepA : ∀ {Wb : Wd} {Hb : Hp}, Ext (W.scr A) H Wb Hb → Hb A = some (.lst as) := fun e => e.keep A _ hAs (.inr fun hx => s2.sep A hx hAz)
        have back : ∀ {Wb : Wd} {Hb : Hp}, Ext (W.scr A) H Wb Hb → Wb = (Wd.mk Wb.i W.z).scr A := fun {Wb Hb} e => by
          have := e.z
          cases Wb
          simp only [Wd.scr] at this ⊢
          rw [this]
        have exb : ∀ {Wb : Wd} {Hb : Hp}, Ext (W.scr A) H Wb Hb → Ext W1 H1 (Wd.mk Wb.i W.z) Hb := fun {Wb Hb} e => by
          refine ⟨ex.z, (ez.trans e).pre, fun a ha hn => ⟨(ez.trans e).new a ha hn, ?_⟩, (ez.trans e).keep⟩
          intro hz
          by_cases hw : a ∈ W.i
          · exact (ex.new a hw hn).2 hz
          · have := (e.new a ha hw).2
            exact this (List.mem_cons_of_mem _ (by rw [ex.z]; exact hz))
        cases hg : g d (wipeE η vs) m with
        | stk => rw [hg] at p2; exact p2.elim
        | exc x m' => rw [hg] at p2; exact p2.elim
        | ok η4 m4 =>
          rw [hg] at p2
          refine ⟨W3, wipeE η vs, m, d, s3, nW.ext e3, r3, ?_⟩
          rw [hg]
          intro σ4 W4 H4 e4 s4 n4
          refine ⟨by rw [n4.2, wipe_wipe], ?_⟩
          have e34 := e3.trans e4
          have p2 : Post X.K X.mg E (Rep X.K) W1 H1 Q (((noX (t η4 m4)).bind fun b m2 => if b = true then (noX (e η4 m2)).bind fun y m3 => if acc.length < sizeLine then mLcL src g t e (wipeE η vs) f (i + 1) m3 (acc ++ [y]) else .stk
            else mLcL src g t e (wipeE η vs) f (i + 1) m2 acc).bind fun acc m2 => mkL al acc m2) := p2
          cases ht : t η4 m4 with
          | stk => rw [ht] at p2; exact p2.elim
          | exc x m' => rw [ht] at p2; exact p2.elim
          | ok b m5 =>
            rw [ht] at p2
            refine ⟨W4, η4, m4, s4, n4.1, ?_⟩
            rw [ht]
            intro b' W5 H5 e5 s5 hb
            cases (show b = b' from hb)
            have e35 := e34.trans e5
            cases b with
            | false =>
              rw [if_neg Bool.false_ne_true]
              refine ⟨Wd.mk W5.i W.z, m5, acc, as, ?_, exb e35, ?_, keepA e35, ?_, hl, p2⟩
              · rw [← back e35]
                exact ez.trans e35
              · rw [← back e35]
                exact s5
              · rw [← back e35]
                exact ra.ext e35
            | true =>
              rw [if_pos rfl]
              have p2 : Post X.K X.mg E (Rep X.K) W1 H1 Q (((noX (e η4 m5)).bind fun y m3 => if acc.length < sizeLine then mLcL src g t e (wipeE η vs) f (i + 1) m3 (acc ++ [y]) else .stk).bind fun acc m2 => mkL al acc m2) := p2
              cases he : e η4 m5 with
              | stk => rw [he] at p2; exact p2.elim
              | exc x m' => rw [he] at p2; exact p2.elim
              | ok y m6 =>
                rw [he] at p2
                have p2 : Post X.K X.mg E (Rep X.K) W1 H1 Q ((if acc.length < sizeLine then mLcL src g t e (wipeE η vs) f (i + 1) m6 (acc ++ [y]) else .stk).bind fun acc m2 => mkL al acc m2) := p2
                by_cases hlt : acc.length < sizeLine
                · rw [if_pos hlt] at p2
                  refine ⟨W5, η4, m5, s5, n4.1.ext e5, ?_⟩
                  rw [he]
                  intro v W6 H6 e6 s6 r6
                  have e36 := e35.trans e6
                  have hA6 := keepA e36
                  refine ⟨as, hA6, by rw [ra.length]; exact hlt, Wd.mk W6.i W.z, m6, acc ++ [y], as ++ [v], ?_, ?_, ?_, upd_same, ?_, ?_, p2⟩
                  · rw [← back e36]
                    exact (ez.trans e36).mscr hA
                  · have q := exb e36
                    exact ⟨q.z, q.pre, q.new, fun a o h k => by rw [upd_ne (ne_of_none h hA)]; exact q.keep a o h k⟩
                  · rw [← back e36]
                    exact s6.mscr (by rw [e36.z]; exact hAz) hA6 rfl
                  · rw [← back e36]
                    have z6 : A ∈ W6.z := by rw [e36.z]; exact hAz
                    exact Reps.tr (Tr.scr z6 hA6 rfl) ((ra.ext e36).append (reps_one r6))
                  · rw [List.length_append]
                    exact hlt
                · rw [if_neg hlt] at p2
                  exact p2.elim
end
end Mir

/-! Mir, operations. -/
namespace Mir
open PySem PySem.Spec PyProof.Rows L2

/-! ### numbers -/
def gSub : D → D → Mem → R D
  | .int i, .int j, m => .ok (.int (i - j)) m
  | _, _, _ => .stk
def mulOk (i j : Int) : Prop := i.natAbs < 2 ^ 64 ∨ j.natAbs < 2 ^ 64 ∨ i.natAbs.log2 + j.natAbs.log2 < 1000000
instance (i j : Int) : Decidable (mulOk i j) := by unfold mulOk; infer_instance
def divOk (j : Int) : Prop := j ≠ 0 ∧ j.natAbs.log2 < 9000
instance (j : Int) : Decidable (divOk j) := by unfold divOk; infer_instance
def powOk (i j : Int) : Prop := 0 ≤ j ∧ j ≤ 1000000 ∧ i.natAbs < 2 ^ 64
instance (i j : Int) : Decidable (powOk i j) := by unfold powOk; infer_instance
def gMulI : D → D → Mem → R D
  | .int i, .int j, m => if mulOk i j then .ok (.int (i * j)) m else .stk
  | _, _, _ => .stk
def gFdiv : D → D → Mem → R D
  | .int i, .int j, m => if divOk j then .ok (.int (i.fdiv j)) m else .stk
  | _, _, _ => .stk
def gMod : D → D → Mem → R D
  | .int i, .int j, m => if j = 0 then .stk else .ok (.int (i.fmod j)) m
  | _, _, _ => .stk
def gPow : D → D → Mem → R D
  | .int i, .int j, m => if powOk i j then .ok (.int (i ^ j.toNat)) m else .stk
  | _, _, _ => .stk
def gNeg : D → Mem → R D
  | .int i, m => .ok (.int (-i)) m
  | _, _ => .stk
section
variable {X : Cx} {E : XK}
theorem om_sub : OpM X E (binaryOp .Sub) gSub := by
  rintro pins s σ H x y v u Q I rx ry ⟨W, m, d, e, sm, rd, re, p⟩
  cases d <;> try exact p.elim
  cases e <;> try exact p.elim
  rw [rd.int'] at rx; rw [re.int'] at ry
  exact op_sub pins s σ H _ _ v u Q I rx ry ⟨_, _, rfl, rfl, p.now sm rep_int⟩
theorem om_mul : OpM X E (binaryOp .Mult) gMulI := by
  rintro pins s σ H x y v u Q I rx ry ⟨W, m, d, e, sm, rd, re, p⟩
  cases d <;> try exact p.elim
  cases e <;> try exact p.elim
  rename_i i j
  rw [rd.int'] at rx; rw [re.int'] at ry
  unfold gMulI at p
  by_cases h : mulOk i j
  · simp only [h, if_true] at p
    rcases h with h | h | h
    · exact op_mul pins s σ H _ _ v u Q I rx ry ⟨_, _, rfl, rfl, .inl ⟨by omega, by omega⟩, p.now sm rep_int⟩
    · exact op_mul pins s σ H _ _ v u Q I rx ry ⟨_, _, rfl, rfl, .inr ⟨by omega, by omega⟩, p.now sm rep_int⟩
    · exact op_mulW pins s σ H _ _ v u Q I rx ry ⟨_, _, rfl, rfl, h, p.now sm rep_int⟩
  · simp only [h, if_false] at p
    exact p.elim
theorem om_fdiv : OpM X E (binaryOp .FloorDiv) gFdiv := by
  rintro pins s σ H x y v u Q I rx ry ⟨W, m, d, e, sm, rd, re, p⟩
  cases d <;> try exact p.elim
  cases e <;> try exact p.elim
  rename_i i j
  rw [rd.int'] at rx; rw [re.int'] at ry
  unfold gFdiv at p
  by_cases h : divOk j
  · simp only [h, if_true] at p
    have ho : OpR X (binaryOp .FloorDiv) (rI (fun _ j => divOk j) fun i j => .int (i.fdiv j)) := opI fun _ _ _ _ _ _ _ hc q => floordiv_int hc.1 q (.inl (PyProof.noPylong_of_log2 hc.2))
    exact ho pins s σ H _ _ v u Q I rx ry ⟨_, _, rfl, rfl, h, p.now sm rep_int⟩
  · simp only [h, if_false] at p
    exact p.elim
theorem om_mod : OpM X E (binaryOp .Mod) gMod := by
  rintro pins s σ H x y v u Q I rx ry ⟨W, m, d, e, sm, rd, re, p⟩
  cases d <;> try exact p.elim
  cases e <;> try exact p.elim
  rename_i i j
  rw [rd.int'] at rx; rw [re.int'] at ry
  unfold gMod at p
  by_cases h : j = 0
  · simp only [h, if_true] at p
    exact p.elim
  · simp only [h, if_false] at p
    exact op_modN pins s σ H _ _ v u Q I rx ry ⟨_, _, rfl, rfl, h, p.now sm rep_int⟩
theorem om_pow : OpM X E (binaryOp .Pow) gPow := by
  rintro pins s σ H x y v u Q I rx ry ⟨W, m, d, e, sm, rd, re, p⟩
  cases d <;> try exact p.elim
  cases e <;> try exact p.elim
  rename_i i j
  rw [rd.int'] at rx; rw [re.int'] at ry
  unfold gPow at p
  by_cases h : powOk i j
  · simp only [h, if_true] at p
    exact op_pow pins s σ H _ _ v u Q I rx ry ⟨_, _, rfl, rfl, h, p.now sm rep_int⟩
  · simp only [h, if_false] at p
    exact p.elim
theorem um_neg : UnR X (unaryOp .USub) (rU1 X.K X.mg E gNeg) := by
  rintro pins s σ H x v Q I rx ⟨W, m, d, sm, rd, p⟩
  cases d <;> try exact p.elim
  rw [rd.int'] at rx
  exact un_neg pins s σ H _ v Q I rx ⟨_, rfl, p.now sm rep_int⟩
end

/-! ### + -/
def catL (al : Bool) (m : Mem) : Option (List D) → Option (List D) → R D
  | some xs, some ys => if xs.length + ys.length ≤ sizeLine then mkL al (xs ++ ys) m else .stk
  | _, _ => .stk
def gAdd (al : Bool) (d e : D) (m : Mem) : R D := match d, e with
  | .int i, .int j => .ok (.int (i + j)) m
  | .str x, .str y => if x.length + y.length ≤ sizeLine then .ok (.str (x ++ y)) m else .stk
  | .tup xs, .tup ys => if xs.length + ys.length ≤ sizeLine then .ok (.tup (xs ++ ys)) m else .stk
  | d, e => catL al m (lstOwn m d) (lstOwn m e)
@[simp] theorem gAdd_int (al : Bool) (i j : Int) (m : Mem) : gAdd al (.int i) (.int j) m = .ok (.int (i + j)) m := nr rfl
section
variable {X : Cx} {E : XK}
theorem om_cat {al : Bool} {pins : List (Addr × Obj)} {s : Shared} {σ : SL} {H : Hp} {x y : V} {v u : Value} {Q : VK} {W : Wd} {m : Mem} {d e : D} (I : Inv X pins σ H s) (rx : RelV x v) (ry : RelV y u) (sm : Sim X.K X.mg W H m) (rd : Rep X.K W H d x) (re : Rep X.K W H e y)
    (p : Post X.K X.mg E (Rep X.K) W H Q (catL al m (lstOwn m d) (lstOwn m e))) : wpAny (model X.prog X.w) X.A (binaryOp .Add v u) (EP X pins σ Q) X.xe s := by
  cases h1 : lstOwn m d with
  | none => rw [h1] at p; exact p.elim
  | some xs =>
    cases h2 : lstOwn m e with
    | none => rw [h1, h2] at p; exact p.elim
    | some ys =>
      rw [h1, h2] at p
      have p : Post X.K X.mg E (Rep X.K) W H Q (if xs.length + ys.length ≤ sizeLine then mkL al (xs ++ ys) m else .stk) := p
      obtain ⟨a, vs, rfl, q1, q2⟩ := sm.own rd h1
      obtain ⟨b, us, rfl, q3, q4⟩ := sm.own re h2
      by_cases hl : xs.length + ys.length ≤ sizeLine
      · rw [if_pos hl] at p
        exact op_cat pins s σ H _ _ v u Q I rx ry ⟨a, b, vs, us, rfl, rfl, q1, q3, by rw [q2.length, q4.length]; exact hl, fun pp hp => sm.newL hp (q2.append q4) p⟩
      · rw [if_neg hl] at p
        exact p.elim
theorem om_add (al : Bool) : OpM X E (binaryOp .Add) (gAdd al) := by
  rintro pins s σ H x y v u Q I rx ry ⟨W, m, d, e, sm, rd, re, p⟩
  unfold gAdd at p
  split at p
  · rw [rd.int'] at rx; rw [re.int'] at ry
    exact op_add pins s σ H _ _ v u Q I rx ry ⟨_, _, rfl, rfl, p.now sm rep_int⟩
  · rw [rd.str'] at rx; rw [re.str'] at ry
    split at p
    · rename_i hl
      exact op_add_str pins s σ H _ _ v u Q I rx ry ⟨_, _, rfl, rfl, hl, p.now sm rep_str⟩
    · exact p.elim
  · rename_i xs ys
    obtain ⟨a, vs, rfl, q1, q2⟩ := rd.tupF'
    obtain ⟨b, us, rfl, q3, q4⟩ := re.tupF'
    split at p
    · rename_i hl
      refine op_catF pins s σ H _ _ v u Q I rx ry ⟨a, b, vs, us, rfl, rfl, q1.t, q3.t, by rw [q2.length, q4.length]; exact hl, fun e => ?_, fun e1 e2 => ?_, fun _ _ pp oo hp ho => sm.newT hp ho (q2.append q4) p⟩
      · have : xs = [] := by
          have := q2.length
          rw [e] at this
          exact List.length_eq_zero_iff.mp this.symm
        subst this
        exact p.now sm (rep_tup q3 q4)
      · have : ys = [] := by
          have := q4.length
          rw [e2] at this
          exact List.length_eq_zero_iff.mp this.symm
        subst this
        rw [List.append_nil] at p
        exact p.now sm (rep_tup q1 q2)
    · exact p.elim
  · exact om_cat I rx ry sm rd re p
end

/-! ### == -/
def mapO {α β : Type} (f : α → Option β) : List α → Option (List β)
  | [] => some []
  | d :: ds => match f d, mapO f ds with
    | some a, some as => some (a :: as)
    | _, _ => none
def toP (m : Mem) : Nat → D → Option PyData
  | 0, _ => none
  | n + 1, d => match d with
    | .non => some .none
    | .bl b => some (.bool b)
    | .int i => some (.int i)
    | .str x => if PyData.strOk x = true then some (.str x) else none
    | .tup ds => (mapO (toP m n) ds).map .tuple
    | .lst ds => (mapO (toP m n) ds).map .list
    | .scr ds => (mapO (toP m n) ds).map .list
    | .ref i => ((lstC m[i]?).bind fun ds => mapO (toP m n) ds).map .list
theorem mapO_cons {α β : Type} {f : α → Option β} {d : α} {ds : List α} {bs : List β} (h : mapO f (d :: ds) = some bs) : ∃ a as, bs = a :: as ∧ f d = some a ∧ mapO f ds = some as := by
  unfold mapO at h
  cases h1 : f d with
  | none => rw [h1] at h; simp at h
  | some a =>
    cases h2 : mapO f ds with
    | none => rw [h1, h2] at h; simp at h
    | some as => rw [h1, h2] at h; simp at h; exact ⟨a, as, h.symm, rfl, rfl⟩
section
variable {X : Cx} {E : XK} {W : Wd} {H : Hp} {m : Mem}
def POk (K : PySem.W.Frag) (H : Hp) (v : V) (p : PyData) (n : Nat) : Prop := Dp K H v p ∧ p.canLay0 = true ∧ p.depth ≤ n
theorem toP_all {n : Nat} (ih : ∀ (d : D) (v : V) (p : PyData), Rep X.K W H d v → toP m n d = some p → POk X.K H v p n) : ∀ (ds : List D) (vs : List V) (ps : List PyData), Reps X.K W H ds vs → mapO (toP m n) ds = some ps → DpAll X.K H vs ps ∧ PyData.canLayAll0 ps = true ∧ PyData.depthAll ps ≤ n
  | [], vs, ps, r, h => by
    rw [r.nil']
    cases h
    exact ⟨.nil, rfl, Nat.zero_le _⟩
  | d :: ds, vs, ps, r, h => by
    obtain ⟨v, vr, rfl, r1, r2⟩ := r.cons'
    obtain ⟨a, as, rfl, h1, h2⟩ := mapO_cons h
    obtain ⟨q1, q2, q3⟩ := ih d v a r1 h1
    obtain ⟨k1, k2, k3⟩ := toP_all ih ds vr as r2 h2
    refine ⟨.cons q1 k1, ?_, ?_⟩
    · show (PyData.canLay0 a && PyData.canLayAll0 as) = true
      rw [q2, k2]; rfl
    · show max (PyData.depth a) (PyData.depthAll as) ≤ n
      omega
theorem toP_ok (sm : Sim X.K X.mg W H m) : ∀ (n : Nat) (d : D) (v : V) (p : PyData), Rep X.K W H d v → toP m n d = some p → POk X.K H v p n
  | 0, d, v, p, r, h => by cases h
  | n + 1, d, v, p, r, h => by
    have ih := toP_ok sm n
    have lst : ∀ (ds : List D) (a : Addr) (vs : List V), SqL X.K H a vs → Reps X.K W H ds vs → (mapO (toP m n) ds).map PyData.list = some p → POk X.K H (.ref a) p (n + 1) := fun ds a vs q1 q2 h => by
      cases hm : mapO (toP m n) ds with
      | none => rw [hm] at h; cases h
      | some ps =>
        rw [hm] at h; cases h
        obtain ⟨k1, k2, k3⟩ := toP_all ih ds vs ps q2 hm
        exact ⟨.lst q1 k1, k2, Nat.succ_le_succ k3⟩
    cases d with
    | non => rw [r.non']; cases h; exact ⟨.non, rfl, Nat.zero_le _⟩
    | bl b => rw [r.bl']; cases h; exact ⟨.bl b, rfl, Nat.zero_le _⟩
    | int i => rw [r.int']; cases h; exact ⟨.int i, rfl, Nat.zero_le _⟩
    | str x =>
      rw [r.str']
      unfold toP at h
      by_cases hs : PyData.strOk x = true
      · simp only [hs, if_true] at h
        cases h
        exact ⟨.str x, hs, Nat.zero_le _⟩
      · simp only [hs] at h
        cases h
    | tup ds =>
      obtain ⟨a, vs, rfl, q1, q2⟩ := r.tup'
      have h : (mapO (toP m n) ds).map PyData.tuple = some p := h
      cases hm : mapO (toP m n) ds with
      | none => rw [hm] at h; cases h
      | some ps =>
        rw [hm] at h; cases h
        obtain ⟨k1, k2, k3⟩ := toP_all ih ds vs ps q2 hm
        exact ⟨.tup q1 k1, k2, Nat.succ_le_succ k3⟩
    | lst ds =>
      obtain ⟨a, vs, rfl, q1, q2⟩ := sm.lst r (ds := ds) rfl
      exact lst ds a vs q1 q2 h
    | scr ds =>
      obtain ⟨a, vs, rfl, q1, q2⟩ := sm.lst r (ds := ds) rfl
      exact lst ds a vs q1 q2 h
    | ref i =>
      have h : ((lstC m[i]?).bind fun ds => mapO (toP m n) ds).map PyData.list = some p := h
      cases hl : lstC m[i]? with
      | none => rw [hl] at h; cases h
      | some ds =>
        rw [hl] at h
        obtain ⟨a, vs, rfl, q1, q2⟩ := sm.lst r (ds := ds) hl
        exact lst ds a vs q1 q2 h
end
def flatD : D → Option V
  | .non => some .non
  | .bl b => some (.bl b)
  | .int i => some (.int i)
  | .str x => some (.str x)
  | _ => none
theorem flat_rep {K : PySem.W.Frag} {W : Wd} {H : Hp} {d : D} {v x : V} (r : Rep K W H d v) (h : flatD d = some x) : v = x ∧ flatV x = true := by
  cases d <;> try (cases h)
  · exact ⟨r.non', rfl⟩
  · exact ⟨r.bl', rfl⟩
  · exact ⟨r.int', rfl⟩
  · exact ⟨r.str', rfl⟩
def eqDeep (neg : Bool) (m : Mem) (d e : D) : R D := match toP m 60 d, toP m 60 e with
  | some p, some q => .ok (.bl (PyData.eqv p q ^^ neg)) m
  | _, _ => .stk
def gEq (neg : Bool) (d e : D) (m : Mem) : R D := match flatD d, flatD e with
  | some x, some y => if scal x y = true then .ok (.bl (decide (x = y) ^^ neg)) m else eqDeep neg m d e
  | _, _ => eqDeep neg m d e
section
variable {X : Cx} {E : XK}
theorem om_deep {neg : Bool} (hu : X.A.units + 64 < cLine) {pins : List (Addr × Obj)} {s : Shared} {σ : SL} {H : Hp} {x y : V} {v u : Value} {Q : VK} {W : Wd} {m : Mem} {d e : D} (I : Inv X pins σ H s) (rx : RelV x v) (ry : RelV y u) (sm : Sim X.K X.mg W H m) (rd : Rep X.K W H d x) (re : Rep X.K W H e y)
    (p : Post X.K X.mg E (Rep X.K) W H Q (eqDeep neg m d e)) : wpAny (model X.prog X.w) X.A (compareOp (if neg then .NotEq else .Eq) v u) (EP X pins σ Q) X.xe s := by
  unfold eqDeep at p
  split at p
  · rename_i p1 p2 h1 h2
    obtain ⟨a1, a2, a3⟩ := toP_ok sm 60 d x p1 rd h1
    obtain ⟨b1, b2, b3⟩ := toP_ok sm 60 e y p2 re h2
    have s1 : SeqAt.shaped p1 = true := by
      unfold SeqAt.shaped
      rw [a2, decide_eq_true (by omega)]; rfl
    have s2 : SeqAt.shaped p2 = true := by
      unfold SeqAt.shaped
      rw [b2, decide_eq_true (by omega)]; rfl
    cases neg with
    | false => exact op_eqD hu pins s σ H _ _ v u Q I rx ry ⟨p1, p2, a1, b1, s1, s2, by simpa using p.now sm rep_bl⟩
    | true => exact op_neD hu pins s σ H _ _ v u Q I rx ry ⟨p1, p2, a1, b1, s1, s2, by simpa using p.now sm rep_bl⟩
  · exact p.elim
theorem om_eqs {neg : Bool} (hu : X.A.units + 64 < cLine) : OpM X E (compareOp (if neg then .NotEq else .Eq)) (gEq neg) := by
  rintro pins s σ H x y v u Q I rx ry ⟨W, m, d, e, sm, rd, re, p⟩
  unfold gEq at p
  split at p
  · rename_i x' y' h1 h2
    obtain ⟨e1, _⟩ := flat_rep rd h1
    obtain ⟨e2, _⟩ := flat_rep re h2
    split at p
    · rename_i hs
      subst e1 e2
      cases neg with
      | false => exact op_eq pins s σ H _ _ v u Q I rx ry ⟨hs, by simpa using p.now sm rep_bl⟩
      | true => exact op_ne pins s σ H _ _ v u Q I rx ry ⟨hs, by simpa using p.now sm rep_bl⟩
    · exact om_deep hu I rx ry sm rd re p
  · exact om_deep hu I rx ry sm rd re p
theorem om_eq (hu : X.A.units + 64 < cLine) : OpM X E (compareOp .Eq) (gEq false) := om_eqs (neg := false) hu
theorem om_ne (hu : X.A.units + 64 < cLine) : OpM X E (compareOp .NotEq) (gEq true) := om_eqs (neg := true) hu
end

/-! ### order -/
def gCmp (fi : Int → Int → Bool) (fs : List Nat → List Nat → Bool) : D → D → Mem → R D
  | .int i, .int j, m => .ok (.bl (fi i j)) m
  | .str x, .str y, m => .ok (.bl (fs x.cps.toList y.cps.toList)) m
  | _, _, _ => .stk
abbrev gLt := gCmp (fun i j => decide (i < j)) (fun x y => decide (x < y))
abbrev gLe := gCmp (fun i j => decide (i ≤ j)) (fun x y => !decide (y < x))
abbrev gGt := gCmp (fun i j => decide (j < i)) (fun x y => decide (y < x))
abbrev gGe := gCmp (fun i j => decide (j ≤ i)) (fun x y => !decide (x < y))
section
variable {X : Cx} {E : XK}
theorem om_lt : OpM X E (compareOp .Lt) gLt := by
  rintro pins s σ H x y v u Q I rx ry ⟨W, m, d, e, sm, rd, re, p⟩
  unfold gLt gCmp at p
  split at p
  · rw [rd.int'] at rx; rw [re.int'] at ry
    exact op_lt pins s σ H _ _ v u Q I rx ry ⟨_, _, rfl, rfl, p.now sm rep_bl⟩
  · rw [rd.str'] at rx; rw [re.str'] at ry
    exact op_lt_str pins s σ H _ _ v u Q I rx ry ⟨_, _, rfl, rfl, p.now sm rep_bl⟩
  · exact p.elim
theorem om_le : OpM X E (compareOp .LtE) gLe := by
  rintro pins s σ H x y v u Q I rx ry ⟨W, m, d, e, sm, rd, re, p⟩
  unfold gLe gCmp at p
  split at p
  · rw [rd.int'] at rx; rw [re.int'] at ry
    exact op_le pins s σ H _ _ v u Q I rx ry ⟨_, _, rfl, rfl, p.now sm rep_bl⟩
  · rw [rd.str'] at rx; rw [re.str'] at ry
    exact op_le_str pins s σ H _ _ v u Q I rx ry ⟨_, _, rfl, rfl, p.now sm rep_bl⟩
  · exact p.elim
theorem om_gt : OpM X E (compareOp .Gt) gGt := by
  rintro pins s σ H x y v u Q I rx ry ⟨W, m, d, e, sm, rd, re, p⟩
  unfold gGt gCmp at p
  split at p
  · rw [rd.int'] at rx; rw [re.int'] at ry
    exact op_gt pins s σ H _ _ v u Q I rx ry ⟨_, _, rfl, rfl, p.now sm rep_bl⟩
  · rw [rd.str'] at rx; rw [re.str'] at ry
    exact op_gt_str pins s σ H _ _ v u Q I rx ry ⟨_, _, rfl, rfl, p.now sm rep_bl⟩
  · exact p.elim
theorem om_ge : OpM X E (compareOp .GtE) gGe := by
  rintro pins s σ H x y v u Q I rx ry ⟨W, m, d, e, sm, rd, re, p⟩
  unfold gGe gCmp at p
  split at p
  · rw [rd.int'] at rx; rw [re.int'] at ry
    exact op_ge pins s σ H _ _ v u Q I rx ry ⟨_, _, rfl, rfl, p.now sm rep_bl⟩
  · rw [rd.str'] at rx; rw [re.str'] at ry
    exact op_ge_str pins s σ H _ _ v u Q I rx ry ⟨_, _, rfl, rfl, p.now sm rep_bl⟩
  · exact p.elim
end
end Mir

/-! Mir, membership, subscripts, built-ins, sources, calls. -/
namespace Mir
open PySem PySem.Spec PyProof.Rows L2

/-! ### in, is -/
def inStr (x y : Str) : Bool := match x.cps.toList with
  | [c] => decide (c ∈ y.cps.toList)
  | _ => !(Builtin.Str.occurrences y x 0 y.length 1).isEmpty
/-- in a list or tuple -/
def inSeq (m : Mem) (d : D) (ds : List D) : Option Bool := match toP m 60 d, mapO (toP m 59) ds with
  | some p, some ps => some (ps.any fun z => PyData.eqv z p)
  | _, _ => none
def flatIn (d : D) (ds : List D) : Option Bool := match flatD d, mapO flatD ds with
  | some x, some xs => some (inV x xs)
  | _, _ => none
def bR (neg : Bool) (m : Mem) : Option Bool → R D
  | some b => .ok (.bl (b ^^ neg)) m
  | none => .stk
def inOf (m : Mem) (d e : D) : Option Bool := match e with
  | .tup ds => flatIn d ds
  | e => match lstOf m e with
    | some ds => match flatIn d ds with
      | some b => some b
      | none => inSeq m d ds
    | none => none
def gIn (neg : Bool) (d e : D) (m : Mem) : R D := match d, e with
  | .str x, .str y => .ok (.bl (inStr x y ^^ neg)) m
  | d, e => bR neg m (inOf m d e)
section
variable {X : Cx} {E : XK}
theorem flats_rep {W : Wd} {H : Hp} : ∀ {ds : List D} {vs xs : List V}, Reps X.K W H ds vs → mapO flatD ds = some xs → vs = xs ∧ xs.all flatV = true
  | [], vs, xs, r, h => by rw [r.nil']; cases h; exact ⟨rfl, rfl⟩
  | d :: ds, vs, xs, r, h => by
    obtain ⟨v, vr, rfl, r1, r2⟩ := r.cons'
    obtain ⟨a, as, rfl, h1, h2⟩ := mapO_cons h
    obtain ⟨e1, e2⟩ := flat_rep r1 h1
    obtain ⟨e3, e4⟩ := flats_rep r2 h2
    subst e1 e3
    exact ⟨rfl, by rw [List.all_cons, e2, e4]; rfl⟩
abbrev inOp (neg : Bool) : CmpOp := if neg then .NotIn else .In
theorem om_flatIn {neg : Bool} {pins : List (Addr × Obj)} {s : Shared} {σ : SL} {H : Hp} {x : V} {v u : Value} {Q : VK} {W : Wd} {m : Mem} {d : D} {b : Bool} {a : Addr} {ds : List D} {vs : List V} (I : Inv X pins σ H s) (rx : RelV x v) (ry : RelV (.ref a) u) (sm : Sim X.K X.mg W H m) (rd : Rep X.K W H d x)
    (rs : Reps X.K W H ds vs) (hq : SqL X.K H a vs ∨ SqT X.K H a vs) (h : flatIn d ds = some b) (p : Post X.K X.mg E (Rep X.K) W H Q (bR neg m (some b))) : wpAny (model X.prog X.w) X.A (compareOp (inOp neg) v u) (EP X pins σ Q) X.xe s := by
  unfold flatIn at h
  split at h
  · rename_i x' xs' h1 h2
    cases h
    obtain ⟨e1, e2⟩ := flat_rep rd h1
    obtain ⟨e3, e4⟩ := flats_rep rs h2
    subst e1 e3
    cases neg with
    | false => exact op_in_seq pins s σ H _ _ v u Q I rx ry ⟨a, _, rfl, hq, e2, e4, by simpa using p.now sm rep_bl⟩
    | true => exact op_notIn_seq pins s σ H _ _ v u Q I rx ry ⟨a, _, rfl, hq, e2, e4, by simpa using p.now sm rep_bl⟩
  · cases h
theorem om_ins {neg : Bool} (hu : X.A.units + 65 < cLine) : OpM X E (compareOp (inOp neg)) (gIn neg) := by
  rintro pins s σ H x y v u Q I rx ry ⟨W, m, d, e, sm, rd, re, p⟩
  unfold gIn at p
  split at p
  · rename_i x' y'
    rw [rd.str'] at rx; rw [re.str'] at ry
    unfold inStr at p
    split at p
    · rename_i c hc
      obtain ⟨⟨l⟩⟩ := x'
      simp only at hc
      subst hc
      cases neg with
      | false => exact op_in_sign pins s σ H _ _ v u Q I rx ry ⟨c, _, rfl, rfl, by simpa using p.now sm rep_bl⟩
      | true => exact op_notIn_sign pins s σ H _ _ v u Q I rx ry ⟨c, _, rfl, rfl, by simpa using p.now sm rep_bl⟩
    · cases neg with
      | false => exact op_in_str pins s σ H _ _ v u Q I rx ry ⟨_, _, rfl, rfl, by simpa using p.now sm rep_bl⟩
      | true => exact op_notin_str pins s σ H _ _ v u Q I rx ry ⟨_, _, rfl, rfl, by simpa using p.now sm rep_bl⟩
  · unfold inOf at p
    split at p
    · rename_i ds _
      obtain ⟨a, vs, rfl, q1, q2⟩ := re.tup'
      cases h : flatIn d ds with
      | none => rw [h] at p; exact p.elim
      | some b => rw [h] at p; exact om_flatIn I rx ry sm rd q2 (.inr q1) h p
    · split at p
      · rename_i ds hl
        obtain ⟨a, vs, rfl, q1, q2⟩ := sm.lst re hl
        split at p
        · rename_i b h
          exact om_flatIn I rx ry sm rd q2 (.inl q1) h p
        · cases h : inSeq m d ds with
          | none => rw [h] at p; exact p.elim
          | some b =>
            rw [h] at p
            unfold inSeq at h
            split at h
            · rename_i p1 ps h1 h2
              cases h
              obtain ⟨a1, a2, a3⟩ := toP_ok sm 60 d x p1 rd h1
              obtain ⟨b1, b2, b3⟩ := toP_all (toP_ok sm 59) ds vs ps q2 h2
              have s1 : SeqAt.shaped p1 = true := by
                unfold SeqAt.shaped
                rw [a2, decide_eq_true (by omega)]; rfl
              have s2 : SeqAt.shaped (.list ps) = true := by
                unfold SeqAt.shaped
                have e1 : PyData.canLay0 (.list ps) = true := b2
                have e2 : PyData.depth (.list ps) ≤ 60 := Nat.succ_le_succ b3
                rw [e1, decide_eq_true (by omega)]; rfl
              cases neg with
              | false => exact op_inD hu pins s σ H _ _ v u Q I rx ry ⟨p1, ps, a1, .lst q1 b1, s1, s2, by simpa using p.now sm rep_bl⟩
              | true => exact op_notInD hu pins s σ H _ _ v u Q I rx ry ⟨p1, ps, a1, .lst q1 b1, s1, s2, by simpa using p.now sm rep_bl⟩
            · cases h
      · exact p.elim
theorem om_in (hu : X.A.units + 65 < cLine) : OpM X E (compareOp .In) (gIn false) := om_ins (neg := false) hu
theorem om_notin (hu : X.A.units + 65 < cLine) : OpM X E (compareOp .NotIn) (gIn true) := om_ins (neg := true) hu
end
def isNon : D → Bool
  | .non => true
  | _ => false
def gIs (neg : Bool) : D → D → Mem → R D
  | d, .non, m => .ok (.bl (isNon d ^^ neg)) m
  | _, _, _ => .stk
section
variable {X : Cx} {E : XK}
theorem isNon_rep {W : Wd} {H : Hp} {d : D} {v : V} (r : Rep X.K W H d v) : decide (v = .non) = isNon d := by
  cases d with
  | non => rw [r.non']; rfl
  | bl b => rw [r.bl']; rfl
  | int i => rw [r.int']; rfl
  | str x => rw [r.str']; rfl
  | tup ds => obtain ⟨a, vs, rfl, _⟩ := r.tup'; rfl
  | lst ds => obtain ⟨a, vs, rfl, _⟩ := r.lst'; rfl
  | scr ds => obtain ⟨a, vs, rfl, _⟩ := r.scr'; rfl
  | ref i => obtain ⟨a, rfl, _⟩ := r.ref'; rfl
theorem om_is : OpM X E (compareOp .Is) (gIs false) := by
  rintro pins s σ H x y v u Q I rx ry ⟨W, m, d, e, sm, rd, re, p⟩
  cases e <;> try exact p.elim
  rw [re.non'] at ry
  refine op_isN pins s σ H _ _ v u Q I rx ry ⟨rfl, ?_⟩
  rw [isNon_rep rd]
  have := Post.now (b := V.bl (isNon d ^^ false)) p sm rep_bl
  simpa using this
end

/-! ### subscripts -/
def oR (m : Mem) : Option D → R D
  | some d => .ok d m
  | none => .stk
def ixOf (m : Mem) (d : D) (i : Int) : Option D := match d with
  | .tup ds => atI ds i
  | .str z => if z.length ≤ sizeLine then (atI z.cps.toList i).map fun c => .str ⟨#[c]⟩ else none
  | d => (lstOf m d).bind fun ds => atI ds i
def gIx (d e : D) (m : Mem) : R D := match e with
  | .int i => oR m (ixOf m d i)
  | _ => .stk
def cutD (xs : List D) (lo hi : Option Int) : List D := (xs.drop (HT.sIx xs.length 0 lo)).take (HT.sIx xs.length xs.length hi - HT.sIx xs.length 0 lo)
def lR (al : Bool) (m : Mem) : Option (List D) → R D
  | some ds => mkL al ds m
  | none => .stk
def gSl (al : Bool) (d : D) (lo hi : Option Int) (m : Mem) : R D := match d with
  | .str z => if z.length ≤ sizeLine then .ok (.str (cutS z lo hi)) m else .stk
  | .tup ds => .ok (.tup (cutD ds lo hi)) m
  | d => lR al m ((lstOf m d).map fun ds => cutD ds lo hi)
section
variable {X : Cx} {E : XK}
theorem atI_rep {W : Wd} {H : Hp} {ds : List D} {vs : List V} {i : Int} {d : D} (r : Reps X.K W H ds vs) (h : atI ds i = some d) : ∃ v, atI vs i = some v ∧ Rep X.K W H d v := by
  unfold atI at h ⊢
  rw [r.length]
  cases hj : ixN ds.length i with
  | none => rw [hj] at h; cases h
  | some j => rw [hj] at h; exact r.get h
theorem cut_rep {W : Wd} {H : Hp} {ds : List D} {vs : List V} {lo hi : Option Int} (r : Reps X.K W H ds vs) : Reps X.K W H (cutD ds lo hi) (cutV vs lo hi) := by
  unfold cutD cutV
  rw [r.length]
  exact (r.drop _).take _
theorem im_ix : IxR X (rM X.K X.mg E gIx) := by
  rintro value slice pins s σ H x y v u Q I rx ry ⟨W, m, d, e, sm, rd, re, p⟩ hs
  cases e <;> try exact p.elim
  rename_i i
  rw [re.int'] at ry
  replace p : Post X.K X.mg E (Rep X.K) W H Q (oR m (ixOf m d i)) := p
  cases h : ixOf m d i with
  | none => rw [h] at p; exact p.elim
  | some z =>
    rw [h] at p
    replace p : Post X.K X.mg E (Rep X.K) W H Q (.ok z m) := p
    have lst : ∀ ds, lstOf m d = some ds → atI ds i = some z → wpAny (model X.prog X.w) X.A (subscriptTail value slice v u) (EP X pins σ Q) X.xe s := fun ds h1 h2 => by
      obtain ⟨a, vs, rfl, q1, q2⟩ := sm.lst rd h1
      obtain ⟨w, k1, k2⟩ := atI_rep q2 h2
      exact ix_list value slice pins s σ H _ _ v u Q I rx ry ⟨a, vs, i, w, rfl, rfl, q1, k1, p.now sm k2⟩ hs
    cases d with
    | tup ds =>
      obtain ⟨a, vs, rfl, q1, q2⟩ := rd.tup'
      obtain ⟨w, k1, k2⟩ := atI_rep q2 h
      exact ix_tup value slice pins s σ H _ _ v u Q I rx ry ⟨a, vs, i, w, rfl, rfl, q1, k1, p.now sm k2⟩ hs
    | str t =>
      rw [rd.str'] at rx
      unfold ixOf at h
      by_cases hz : t.length ≤ sizeLine
      · simp only [hz, if_true] at h
        cases hc : atI t.cps.toList i with
        | none => rw [hc] at h; cases h
        | some c =>
          rw [hc] at h
          cases h
          exact ix_str value slice pins s σ H _ _ v u Q I rx ry ⟨t, i, c, rfl, rfl, hz, hc, p.now sm rep_str⟩ hs
      · simp only [hz, if_false] at h
        cases h
    | lst ds => exact lst ds rfl h
    | scr ds => exact lst ds rfl h
    | ref j =>
      have h : (lstOf m (.ref j)).bind (fun ds => atI ds i) = some z := h
      cases hl : lstOf m (.ref j) with
      | none => rw [hl] at h; cases h
      | some ds => rw [hl] at h; exact lst ds hl h
    | _ => cases h
theorem sm_sl (al : Bool) : SlR X (rSM X.K X.mg E (gSl al)) := by
  rintro pins s σ H x v vl vu lo hi sl Q I rx hs pl pu ⟨W, m, d, sm, rd, p⟩
  have lst : ∀ ds, lstOf m d = some ds → Post X.K X.mg E (Rep X.K) W H Q (mkL al (cutD ds lo hi) m) → ∃ T id, typeLookup (.type T) "__getitem__" = pure (some (.builtin id)) ∧ s.TypeIs v T ∧ wpAny (model X.prog X.w) X.A (getItem v (.ref sl)) (EP X pins σ Q) X.xe s := fun ds h1 p => by
    obtain ⟨a, vs, rfl, q1, q2⟩ := sm.lst rd h1
    exact sl_list pins s σ H _ v vl vu lo hi sl Q I rx hs pl pu ⟨a, vs, rfl, q1, fun pp hp => sm.newL hp (cut_rep q2) p⟩
  cases d with
  | str z =>
    rw [rd.str'] at rx
    unfold gSl at p
    by_cases hz : z.length ≤ sizeLine
    · simp only [hz, if_true] at p
      exact sl_str pins s σ H _ v vl vu lo hi sl Q I rx hs pl pu ⟨z, rfl, hz, p.now sm rep_str⟩
    · simp only [hz, if_false] at p
      exact p.elim
  | tup ds =>
    obtain ⟨a, vs, rfl, q1, q2⟩ := rd.tupF'
    have p : Post X.K X.mg E (Rep X.K) W H Q (.ok (.tup (cutD ds lo hi)) m) := p
    refine sl_tupF pins s σ H _ v vl vu lo hi sl Q I rx hs pl pu ⟨a, vs, rfl, q1.t, fun hw => ?_, fun _ pp oo hp ho => sm.newT hp ho (cut_rep q2) p⟩
    have e : cutD ds lo hi = ds := by
      unfold cutD
      rw [q2.length] at hw
      rw [hw.1, hw.2]
      simp
    rw [e] at p
    exact p.now sm (rep_tup q1 q2)
  | lst ds => exact lst ds rfl p
  | scr ds => exact lst ds rfl p
  | ref j =>
    have p : Post X.K X.mg E (Rep X.K) W H Q (lR al m ((lstOf m (.ref j)).map fun ds => cutD ds lo hi)) := p
    cases hl : lstOf m (.ref j) with
    | none => rw [hl] at p; exact p.elim
    | some ds => rw [hl] at p; exact lst ds hl p
  | _ => exact p.elim
end

/-! ### o[i] = v -/
def setL (m : Mem) (i : Nat) (k : Int) (d : D) : R Unit := match lstC m[i]? with
  | some ds => match ixN ds.length k with
    | some j => .ok () (m.set i (.lst (ds.set j d)))
    | none => .stk
  | none => .stk
def gSet (o i d : D) (m : Mem) : R Unit := match o, i with
  | .ref j, .int k => setL m j k d
  | _, _ => .stk
def gSubT (co ci : EM) : GM := fun d η m => (co η m).bind fun o m1 => (ci η m1).bind fun i m2 => (gSet o i d m2).bind fun _ m3 => .ok η m3
def rSetM (K : PySem.W.Frag) (mg : Str → Option Value) (E : XK) : V → V → V → Hp → (Hp → Prop) → Prop := fun o i v H Q => ∃ W m do' di d, Sim K mg W H m ∧ Rep K W H do' o ∧ Rep K W H di i ∧ Rep K W H d v ∧ Post K mg E (fun _ _ _ (_ : Unit) => True) W H (fun _ H' => Q H') (gSet do' di d m)
section
variable {X : Cx} {E : XK} {pos : Pos}
theorem set_m : PSet X (rSetM X.K X.mg E) := by
  rintro pins s σ H o i v ov iv u Q I ro ri rv ⟨W, m, do', di, d, sm, r1, r2, r3, p⟩
  unfold gSet at p
  split at p
  · rename_i j k
    obtain ⟨a, rfl, e2⟩ := r1.ref'
    rw [r2.int'] at ri
    unfold setL at p
    split at p
    · rename_i ds hl
      split at p
      · rename_i t ht
        have hc : m[j]? = some (.lst ds) := by
          cases hm : m[j]? with
          | none => rw [hm] at hl; cases hl
          | some c => cases c <;> (rw [hm] at hl; cases hl) <;> rfl
        obtain ⟨vs, q1, q2⟩ := sm.cell j a _ e2 hc
        have ha : a ∈ W.i := List.mem_of_getElem? e2
        refine set_list pins s σ H _ _ v ov iv u Q I ro ri rv ⟨a, vs, k, t, rfl, rfl, q1, by rw [q2.length]; exact ht, ?_⟩
        have ex : Ext W H W (upd H a (.lst (vs.set t v))) := Ext.mut ha q1 rfl
        exact p () W _ ex (sm.mut e2 ⟨vs.set t v, upd_same, ((q2.ext ex).set t (r3.ext ex))⟩) True.intro
      · exact p.elim
    · exact p.elim
  · exact p.elim
theorem mg_sub {vs : List Nat} {o i : Expr} {co ci : EM} (ho : MEx X E o co) (hi : MEx X E i ci)
    (ha : ∀ v, assign (.Subscript o i pos) X.env v = (do
      let ov ← holding [v] (eval o X.env)
      let iv ← holding [v, ov] (eval i X.env)
      standAt pos
      holding [v, ov, iv] (setItem ov iv v)
      release [v, ov, iv] []) := by intro _; rfl) : MG X E Rep vs (.Subscript o i pos) (gSubT co ci) := by
  refine ⟨fun pins s σ H v u Q I r h => (pg_sub ho hi (set_m (E := E)) ha).run pins s σ H v u Q I r ?_⟩
  obtain ⟨W, η, m, d, s, n, rp, p⟩ := h
  refine ⟨W, η, m, s, n, (Post.bind (Rl := Rep X.K) p).imp fun x H1 ⟨W1, d1, m1, e1, s1, r1, p1⟩ => ?_⟩
  refine ⟨W1, η, m1, s1, n.ext e1, (Post.bind (Rl := Rep X.K) p1).imp fun y H2 ⟨W2, d2, m2, e2, s2, r2, p2⟩ => ?_⟩
  refine ⟨W2, m2, d1, d2, d, s2, r1.ext e2, r2, (rp.ext e1).ext e2, (Post.bind (Rl := fun _ _ _ (_ : Unit) => True) p2).imp fun z H3 ⟨W3, _, m3, e3, s3, _, p3⟩ => ?_⟩
  exact p3.now s3 ⟨((n.ext e1).ext e2).ext e3, rfl⟩
end

/-! ### built-ins -/
def lenOf (m : Mem) : D → Option Nat
  | .str x => if x.length ≤ sizeLine then some x.length else none
  | .tup ds => some ds.length
  | d => (lstOf m d).map List.length
def bLen (ds : List D) (m : Mem) : R D := match ds with
  | [d] => match lenOf m d with
    | some n => .ok (.int n) m
    | none => .stk
  | _ => .stk
def seqOf (m : Mem) : D → Option (List D)
  | .tup ds => some ds
  | d => lstOf m d
def bList (al : Bool) (ds : List D) (m : Mem) : R D := match ds with
  | [d] => lR al m (seqOf m d)
  | _ => .stk
def bTuple (ds : List D) (m : Mem) : R D := match ds with
  | [d] => match seqOf m d with
    | some ds => .ok (.tup ds) m
    | none => .stk
  | _ => .stk
def boolOf : D → Option Bool
  | .bl b => some b
  | _ => none
def intOf : D → Option Int
  | .int i => some i
  | _ => none
def strOf : D → Option Str
  | .str i => some i
  | _ => none
def bAll (f : List Bool → Bool) (ds : List D) (m : Mem) : R D := match ds with
  | [d] => match (lstOf m d).bind (mapO boolOf) with
    | some bs => .ok (.bl (f bs)) m
    | none => .stk
  | _ => .stk
def bAbs (ds : List D) (m : Mem) : R D := match ds with
  | [.int i] => .ok (.int (if i < 0 then -i else i)) m
  | _ => .stk
section
variable {X : Cx} {E : XK}
theorem Sim.seq {K : PySem.W.Frag} {mg : Str → Option Value} {W : Wd} {H : Hp} {m : Mem} {d : D} {v : V} {ds : List D} (s : Sim K mg W H m) (r : Rep K W H d v) (h : seqOf m d = some ds) : ∃ a vs, v = .ref a ∧ (SqL K H a vs ∨ SqT K H a vs) ∧ Reps K W H ds vs := by
  unfold seqOf at h
  split at h
  · cases h
    obtain ⟨a, vs, rfl, q1, q2⟩ := r.tup'
    exact ⟨a, vs, rfl, .inr q1, q2⟩
  · obtain ⟨a, vs, rfl, q1, q2⟩ := s.lst r h
    exact ⟨a, vs, rfl, .inl q1, q2⟩
theorem cm_len : CallR X (.builtin "len") (rCM X.K X.mg E bLen) := by
  rintro pins s σ H xs us Q I rv ⟨W, m, ds, sm, rs, p⟩
  unfold bLen at p
  split at p
  · rename_i d
    obtain ⟨v, vr, rfl, r1, r2⟩ := rs.cons'
    rw [r2.nil'] at rv
    split at p
    · rename_i n hn
      unfold lenOf at hn
      split at hn
      · rename_i x
        rw [r1.str'] at rv
        split at hn
        · rename_i hz
          cases hn
          exact call_len_str pins s σ H _ us Q I rv ⟨x, rfl, hz, p.now sm rep_int⟩
        · cases hn
      · rename_i ds
        cases hn
        obtain ⟨a, vs, rfl, q1, q2⟩ := r1.tup'
        exact call_len_seq pins s σ H _ us Q I rv ⟨a, vs, rfl, .inr q1, by rw [q2.length]; exact p.now sm rep_int⟩
      · cases hl : lstOf m d with
        | none => rw [hl] at hn; cases hn
        | some ds =>
          rw [hl] at hn
          cases hn
          obtain ⟨a, vs, rfl, q1, q2⟩ := sm.lst r1 hl
          exact call_len_seq pins s σ H _ us Q I rv ⟨a, vs, rfl, .inl q1, by rw [q2.length]; exact p.now sm rep_int⟩
    · exact p.elim
  · exact p.elim
theorem cm_list (al : Bool) : CallR X (.type "list") (rCM X.K X.mg E (bList al)) := by
  rintro pins s σ H xs us Q I rv ⟨W, m, ds, sm, rs, p⟩
  unfold bList at p
  split at p
  · rename_i d
    obtain ⟨v, vr, rfl, r1, r2⟩ := rs.cons'
    rw [r2.nil'] at rv
    cases h : seqOf m d with
    | none => rw [h] at p; exact p.elim
    | some ds =>
      rw [h] at p
      obtain ⟨a, vs, rfl, q1, q2⟩ := sm.seq r1 h
      exact call_list_of pins s σ H _ us Q I rv ⟨a, vs, rfl, q1, fun pp hp => sm.newL hp q2 p⟩
  · exact p.elim
theorem cm_tuple : CallR X (.type "tuple") (rCM X.K X.mg E bTuple) := by
  rintro pins s σ H xs us Q I rv ⟨W, m, ds, sm, rs, p⟩
  unfold bTuple at p
  split at p
  · rename_i d
    obtain ⟨v, vr, rfl, r1, r2⟩ := rs.cons'
    rw [r2.nil'] at rv
    split at p
    · rename_i ds h
      unfold seqOf at h
      split at h
      · cases h
        obtain ⟨a, vs, rfl, q1, q2⟩ := r1.tupF'
        exact call_tupleF pins s σ H _ us Q I rv ⟨a, vs, rfl, .inr ⟨q1.t, p.now sm (rep_tup q1 q2)⟩⟩
      · obtain ⟨a, vs, rfl, q1, q2⟩ := sm.lst r1 h
        exact call_tupleF pins s σ H _ us Q I rv ⟨a, vs, rfl, .inl ⟨q1, fun pp oo hp ho => sm.newT hp ho q2 p⟩⟩
    · exact p.elim
  · exact p.elim
theorem bools_rep {W : Wd} {H : Hp} : ∀ {ds : List D} {vs : List V} {bs : List Bool}, Reps X.K W H ds vs → mapO boolOf ds = some bs → vs = bs.map V.bl
  | [], vs, bs, r, h => by rw [r.nil']; cases h; rfl
  | d :: ds, vs, bs, r, h => by
    obtain ⟨v, vr, rfl, r1, r2⟩ := r.cons'
    obtain ⟨a, as, rfl, h1, h2⟩ := mapO_cons h
    rw [bools_rep r2 h2]
    cases d <;> cases h1
    rw [r1.bl']; rfl
theorem strs_rep {W : Wd} {H : Hp} : ∀ {ds : List D} {vs : List V} {bs : List Str}, Reps X.K W H ds vs → mapO strOf ds = some bs → vs = bs.map V.str
  | [], vs, bs, r, h => by rw [r.nil']; cases h; rfl
  | d :: ds, vs, bs, r, h => by
    obtain ⟨v, vr, rfl, r1, r2⟩ := r.cons'
    obtain ⟨a, as, rfl, h1, h2⟩ := mapO_cons h
    rw [strs_rep r2 h2]
    cases d <;> cases h1
    rw [r1.str']; rfl
theorem cm_all (hc : X.calm = true) : CallR X (.builtin "all") (rCM X.K X.mg E (bAll fun bs => bs.all id)) := by
  rintro pins s σ H xs us Q I rv ⟨W, m, ds, sm, rs, p⟩
  unfold bAll at p
  split at p
  · rename_i d
    obtain ⟨v, vr, rfl, r1, r2⟩ := rs.cons'
    rw [r2.nil'] at rv
    cases h : lstOf m d with
    | none => rw [h] at p; exact p.elim
    | some ds =>
      rw [h] at p
      cases hb : mapO boolOf ds with
      | none => simp only [Option.bind_some, hb] at p; exact p.elim
      | some bs =>
        simp only [Option.bind_some, hb] at p
        obtain ⟨a, vs, rfl, q1, q2⟩ := sm.lst r1 h
        exact cr_all hc pins s σ H _ us Q I rv ⟨a, bs, rfl, by rw [← bools_rep q2 hb]; exact q1, p.now sm rep_bl⟩
  · exact p.elim
theorem cm_abs : CallR X (.builtin "abs") (rCM X.K X.mg E bAbs) := by
  rintro pins s σ H xs us Q I rv ⟨W, m, ds, sm, rs, p⟩
  unfold bAbs at p
  split at p
  · rename_i i
    obtain ⟨v, vr, rfl, r1, r2⟩ := rs.cons'
    rw [r2.nil', r1.int'] at rv
    exact call_abs pins s σ H _ us Q I rv ⟨i, rfl, p.now sm rep_int⟩
  · exact p.elim
end
end Mir

/-! Mir, methods, sources, defs, calls. -/
namespace Mir
open PySem PySem.Spec PyProof.Rows L2

/-! ### methods of built-in types -/
def isTy (T : String) (m : Mem) (d : D) : Bool := match d with
  | .str _ => T == "str"
  | .tup _ => T == "tuple"
  | d => T == "list" && (lstOf m d).isSome
def mBM (T : String) (g : D → List D → Mem → R D) (o : EM) (a : AM) : EM := fun η m => (o η m).bind fun x m1 => if isTy T m1 x = true then (a η m1).bind fun xs m2 => g x xs m2 else .stk
def tyF (K : PySem.W.Frag) (T : String) (x : V) (H : Hp) : Prop := tyV K T x H ∨ (T = "tuple" ∧ ∃ a xs, x = .ref a ∧ SqF K H a xs)
def rMM (K : PySem.W.Frag) (mg : Str → Option Value) (E : XK) (g : D → List D → Mem → R D) : V → List V → Hp → VK → Prop := fun x xs H Q => ∃ W m d ds, Sim K mg W H m ∧ Rep K W H d x ∧ Reps K W H ds xs ∧ Post K mg E (Rep K) W H Q (g d ds m)
section
variable {X : Cx} {E : XK} {o e : Expr} {es : List Expr} {name : Str} {apos cpos : Pos} {T id : String} {g : D → List D → Mem → R D} {co : EM} {ca : AM}
theorem tyF_is {pins : List (Addr × Obj)} {σ : SL} {H : Hp} {s : Shared} {T : String} {x : V} {v : Value} (I : L2.Inv X pins σ H s) (r : L2.RelV x v) (ty : tyF X.K T x H) :
    s.TypeIs v T ∧ ∀ a, v = .ref a → ∃ ob, s.heap.get? a = some ob ∧ ob.dict = none := by
  rcases ty with ty | ⟨rfl, a, xs, rfl, h⟩
  · exact tyV_is I r ty
  · cases r
    rcases h with ⟨ob, h, hd, hc⟩ | ⟨ob, its, n, h1, h2, h3, _⟩
    · have k := (I.hok a _ h).1
      exact ⟨⟨ob, k, hc⟩, fun b e => by cases e; exact ⟨ob, k, hd⟩⟩
    · exact ⟨⟨ob, I.kIn a ob h1, h2⟩, fun b e => by cases e; exact ⟨ob, I.kIn _ ob h1, h3⟩⟩
theorem isTy_ok {W : Wd} {H : Hp} {m : Mem} {d : D} {x : V} (sm : Sim X.K X.mg W H m) (r : Rep X.K W H d x) (h : isTy T m d = true) : tyF X.K T x H := by
  have lst : (T == "list" && (lstOf m d).isSome) = true → tyF X.K T x H := fun h => by
    rw [Bool.and_eq_true] at h
    obtain ⟨ds, hl⟩ := Option.isSome_iff_exists.mp h.2
    obtain ⟨a, vs, rfl, q1, q2⟩ := sm.lst r hl
    exact .inl (.inl ⟨by simpa using h.1, vs, q1⟩)
  cases d with
  | str z => rw [r.str']; exact .inl (show T = "str" by simpa [isTy] using h)
  | tup ds =>
    obtain ⟨a, vs, rfl, q1, q2⟩ := r.tupF'
    exact .inr ⟨by simpa [isTy] using h, a, vs, rfl, q1⟩
  | _ => exact lst h
theorem me_bm (pa : PlainAttrs T) (slot : Slot T name id) (hty : typeOf (.builtin id) = pure (.type "method_descriptor")) (hm : MtR X id (rMM X.K X.mg E g)) (ho : MEx X E o co) (ha : MA X E (e :: es) ca)
    (hbase : attributeBase o name X.env (eval o X.env) = eval o X.env := by rfl)
    (hfew : ((backTo cpos (starEach (e :: es) X.env)).all (fun x => !x.1) && (backToKw cpos (keywordEach [] X.env)).all (fun x => x.1.isSome)
      && decide ((e :: es).length + ([] : List Keyword).length + (if ([] : List Keyword).isEmpty then 0 else 1) < 30)) = true := by rfl)
    (hline : (apos.endLine == cpos.line) = true := by rfl) (hs : starEach (e :: es) X.env = (false, eval e X.env) :: starEach es X.env := by rfl) (hplain : (backTo cpos (starEach es X.env)).any (·.1) = false := by rfl) :
    MEx X E (.Call (.Attribute o name apos) (e :: es) [] cpos) (mBM T g co ca) := by
  refine ⟨fun pins s σ H Q I h => ?_⟩
  have h2 : rdE X.K X.mg E co σ H (fun x H1 => tyF X.K T x H1 ∧ rdA X.K X.mg E ca σ H1 fun xs H2 => rMM X.K X.mg E g x xs H2 Q) := by
    obtain ⟨W, η, m, s, n, p⟩ := h
    refine ⟨W, η, m, s, n, (Post.bind (Rl := Rep X.K) p).imp fun x H1 ⟨W1, d, m1, e1, s1, r1, p1⟩ => ?_⟩
    by_cases hT : isTy T m1 d = true
    · rw [if_pos hT] at p1
      refine ⟨isTy_ok s1 r1 hT, W1, η, m1, s1, n.ext e1, (Post.bind (Rl := Reps X.K) p1).imp fun xs H2 ⟨W2, ds, m2, e2, s2, r2, p2⟩ => ⟨W2, m2, d, ds, s2, r1.ext e2, r2, p2⟩⟩
    · rw [if_neg hT] at p1
      exact p1.elim
  refine wpAny_Call_method_late hbase hfew hline rfl (thn (ho.run pins s σ H _ I h2) fun v s1 ⟨x, H1, I1, r1, ty, q1⟩ => ?_)
  obtain ⟨k1, k2⟩ := tyF_is I1 r1 ty
  refine ⟨T, id, pa, slot, hty, k1, k2, ?_⟩
  have hA := ha.run cpos pins s1 σ H1 _ I1 q1
  rw [hs] at hA ⊢
  refine Calls.callWith_builtin (by show (false || (backTo cpos (starEach es X.env)).any (·.1)) = false; rw [hplain] <;> rfl) (Calls.evalArgs_plain ?_)
  exact thn hA fun us s2 ⟨vs, H2, I2, r2, q2⟩ => hm pins s2 σ H2 x vs v us Q I2 r1 r2 q2
end
def gJoin (d : D) (ds : List D) (m : Mem) : R D := match d, ds with
  | .str a, [e] => match (seqOf m e).bind (mapO strOf) with
    | some ys => if (ys.map (·.length)).sum + ys.length * a.length ≤ 16777216 then .ok (.str (Txt.join a ys)) m else .stk
    | none => .stk
  | _, _ => .stk
def gAppend (d : D) (ds : List D) (m : Mem) : R D := match d, ds with
  | .ref i, [x] => match lstC m[i]? with
    | some xs => if xs.length < sizeLine then .ok .non (m.set i (.lst (xs ++ [x]))) else .stk
    | none => .stk
  | _, _ => .stk
/-- the first place -/
def firstAt (z : Str) : List Str → Option Nat
  | [] => none
  | y :: ys => if y = z then some 0 else (firstAt z ys).map (· + 1)
section
variable {X : Cx} {E : XK}
theorem cell_of {m : Mem} {i : Nat} {ds : List D} (h : lstC m[i]? = some ds) : m[i]? = some (.lst ds) := by
  cases hm : m[i]? with
  | none => rw [hm] at h; cases h
  | some c => cases c <;> (rw [hm] at h; cases h) <;> rfl
theorem mm_join : MtR X "str.join" (rMM X.K X.mg E gJoin) := by
  rintro pins s σ H x xs v us Q I rx rxs ⟨W, m, d, ds, sm, rd, rds, p⟩
  unfold gJoin at p
  split at p
  · rename_i a e
    rw [rd.str'] at rx
    obtain ⟨w, wr, rfl, r1, r2⟩ := rds.cons'
    rw [r2.nil'] at rxs
    split at p
    · rename_i ys hy
      cases hs : seqOf m e with
      | none => rw [hs] at hy; cases hy
      | some zs =>
        rw [hs] at hy
        obtain ⟨b, vs, rfl, q1, q2⟩ := sm.seq r1 hs
        have ev := strs_rep q2 hy
        subst ev
        split at p
        · rename_i hl
          exact mt_join pins s σ H _ _ v us Q I rx rxs ⟨a, b, ys, rfl, rfl, q1, hl, p.now sm rep_str⟩
        · exact p.elim
    · exact p.elim
  · exact p.elim
theorem mm_append : MtR X "list.append" (rMM X.K X.mg E gAppend) := by
  rintro pins s σ H x xs v us Q I rx rxs ⟨W, m, d, ds, sm, rd, rds, p⟩
  unfold gAppend at p
  split at p
  · rename_i i e
    obtain ⟨a, rfl, e2⟩ := rd.ref'
    obtain ⟨w, wr, rfl, r1, r2⟩ := rds.cons'
    rw [r2.nil'] at rxs
    split at p
    · rename_i zs hl
      split at p
      · rename_i hlt
        obtain ⟨vs, q1, q2⟩ := sm.cell i a _ e2 (cell_of hl)
        have ex : Ext W H W (upd H a (.lst (vs ++ [w]))) := Ext.mut (List.mem_of_getElem? e2) q1 rfl
        exact mt_append pins s σ H _ _ v us Q I rx rxs ⟨a, vs, w, rfl, rfl, q1, by rw [q2.length]; exact hlt, p .non W _ ex (sm.mut e2 ⟨_, upd_same, (q2.append (reps_one r1)).ext ex⟩) rep_non⟩
      · exact p.elim
    · exact p.elim
  · exact p.elim
theorem Reps.dropLast {W : Wd} {H : Hp} {ds : List D} {vs : List V} (r : Reps X.K W H ds vs) : Reps X.K W H ds.dropLast vs.dropLast := by
  rw [List.dropLast_eq_take, List.dropLast_eq_take, r.length]
  exact r.take _
end

/-! ### isinstance of a built-in class -/
def tyNm (m : Mem) : D → Option String
  | .non => some "NoneType"
  | .bl _ => some "bool"
  | .int _ => some "int"
  | .str _ => some "str"
  | .tup _ => some "tuple"
  | .lst _ => some "list"
  | .scr _ => none
  | .ref i => match m[i]? with
    | some (.lst _) => some "list"
    | some (.dK _) => some "dict"
    | _ => none
def mIsi (T : String) (c : EM) : EM := fun η m => (c η m).bind fun d m1 => match (tyNm m1 d).bind fun t => kitB t T with
  | some b => .ok (.bl b) m1
  | none => .stk
section
variable {X : Cx} {E : XK}
theorem tyNm_ok {W : Wd} {H : Hp} {m : Mem} {d : D} {v : V} {t : String} (sm : Sim X.K X.mg W H m) (r : Rep X.K W H d v) (h : tyNm m d = some t) : TyX X.K H v (.type t) := by
  cases d with
  | non => rw [r.non']; cases h; exact .base .non
  | bl b => rw [r.bl']; cases h; exact .base (.bl b)
  | int i => rw [r.int']; cases h; exact .base (.int i)
  | str x => rw [r.str']; cases h; exact .base (.str x)
  | tup ds =>
    obtain ⟨a, vs, rfl, q1, q2⟩ := r.tupF'
    cases h
    rcases q1 with ⟨o, q, _⟩ | ⟨o, its, n, h1, h2, _⟩
    · exact .fTuple q
    · exact .kTuple h1 h2
  | lst ds =>
    obtain ⟨a, vs, rfl, q1, q2⟩ := r.lst'
    cases h
    exact .base (.lst q1.1)
  | scr ds => cases h
  | ref i =>
    obtain ⟨a, rfl, e2⟩ := r.ref'
    simp only [tyNm] at h
    cases hm : m[i]? with
    | none => rw [hm] at h; cases h
    | some c =>
      rw [hm] at h
      have q := sm.cell i a c e2 hm
      cases c with
      | lst ds => cases h; obtain ⟨vs, q1, _⟩ := q; exact .base (.lst q1)
      | dK ds => cases h; obtain ⟨vs, q1, _⟩ := q; exact .base (.dK q1)
      | dT ds => cases h
      | ins c fs => cases h
      | dKz ds => cases h
      | dTz ds => cases h
      | exc c fs => cases h
theorem me_isi (T : String) {e : Expr} {c : EM} {p p2 pos : Pos} {tn : Str} (hm : X.mg "isinstance" = none) (hmT : X.mg tn = none) (hg : Gl X "isinstance") (hgT : Gl X tn) (hvT : bootBuiltins tn = some (.type T)) (he : MEx X E e c)
    (hnT : tn ≠ "__name__" := by decide) (hdT : (tn == ("__debug__" : Str)) = false := by decide)
    (hs1 : starEach [e, .Name tn p2] X.env = (false, eval e X.env) :: starEach [.Name tn p2] X.env := by rfl) (hs2 : starEach [.Name tn p2] X.env = (false, eval (.Name tn p2) X.env) :: starEach [] X.env := by rfl)
    (hpl : (backTo pos (starEach [.Name tn p2] X.env)).any (·.1) = false := by rfl) : MEx X E (.Call (.Name "isinstance" p) [e, .Name tn p2] [] pos) (mIsi T c) := by
  refine (pe_callB call_isi hg hm boot_isinstance (pa_cons he (pa_cons (pe_bltn (v := .ty T) hgT hmT hvT rfl hnT hdT) pa_nil hs2) hs1) (by decide) (by decide) hs1 hpl).imp fun σ H Q ⟨W, η, m, s, n, p⟩ => ?_
  refine ⟨W, η, m, s, n, (Post.bind (Rl := Rep X.K) p).imp fun x H1 ⟨W1, d, m1, e1, s1, r1, p1⟩ => ?_⟩
  cases h : tyNm m1 d with
  | none => rw [h] at p1; exact p1.elim
  | some t =>
    rw [h] at p1
    cases hk : kitB t T with
    | none => simp only [Option.bind_some, hk] at p1; exact p1.elim
    | some b =>
      simp only [Option.bind_some, hk] at p1
      exact ⟨x, .ty T, .type t, .type T, b, rfl, .ty T, tyNm_ok s1 r1 h, kit_ty hk, p1.now s1 rep_bl⟩
end

/-! ### sources -/
def srcL (ds : List D) : Src := fun k _ => some ds[k]?
def srcLP (ds : List D) : Src × Nat := (srcL ds, ds.length)
def chD (x : Str) : List D := x.cps.toList.map fun c => .str ⟨#[c]⟩
def srcR (i : Nat) : Src := fun k m => (lstC m[i]?).map fun ds => ds[k]?
def srcOf (m : Mem) : D → Option (Src × Nat)
  | .tup ds => some (srcLP ds)
  | .lst ds => some (srcLP ds)
  | .scr ds => some (srcLP ds)
  | .str x => some (srcLP (chD x))
  | .ref i => (lstC m[i]?).map fun ds => (srcR i, ds.length)
  | _ => none
def mIt (c : EM) : IM := fun η m => (c η m).bind fun d m1 => match srcOf m1 d with
  | some p => .ok p m1
  | none => .stk
def rngD (lo : Int) (n : Nat) : List D := (List.range n).map fun k => .int (lo + (k : Nat))
@[irreducible] def rngB (j : Int) : Bool := decide (-(2 ^ 62) ≤ j ∧ j < 2 ^ 62)
theorem rngB_iff (j : Int) : rngB j = true ↔ (-(2 ^ 62) ≤ j ∧ j < 2 ^ 62) := by unfold rngB; exact decide_eq_true_iff
def mRng1 (a : EM) : IM := fun η m => (a η m).bind fun x m1 => match x with
  | .int j => if rngB j = true then .ok (srcLP (rngD 0 j.toNat)) m1 else .stk
  | _ => .stk
def mRng2 (a b : EM) : IM := fun η m => (a η m).bind fun x m1 => (b η m1).bind fun y m2 => match x, y with
  | .int i, .int j => if (rngB i && rngB j) = true then .ok (srcLP (rngD i (j - i).toNat)) m2 else .stk
  | _, _ => .stk
section
variable {X : Cx} {E : XK} {tg it : Expr} {K : PySem.W.Frag} {mg : Str → Option Value}
theorem _root_.L2.PI.imp {X : Cx} {tg it : Expr} {w w' : TI} (h : PI X tg it w) (k : ∀ σ H R, w' σ H R → w σ H R) : PI X tg it w' := ⟨fun pins s σ H R I q => h.run pins s σ H R I (k σ H R q)⟩
theorem _root_.L2.PI.or {X : Cx} {tg it : Expr} {w w' : TI} (h : PI X tg it w) (h' : PI X tg it w') : PI X tg it (fun σ H R => w σ H R ∨ w' σ H R) := ⟨fun pins s σ H R I q => by
  rcases q with q | q
  · exact h.run pins s σ H R I q
  · exact h'.run pins s σ H R I q⟩
theorem rngD_get {lo : Int} {n k : Nat} {d : D} (h : (rngD lo n)[k]? = some d) : k < n ∧ d = .int (lo + (k : Nat)) := by
  unfold rngD at h
  rw [List.getElem?_map] at h
  cases hk : (List.range n)[k]? with
  | none => rw [hk] at h; cases h
  | some j =>
    rw [hk] at h
    have := List.getElem?_eq_some_iff.mp hk
    obtain ⟨h1, h2⟩ := this
    rw [List.getElem_range] at h2
    rw [List.length_range] at h1
    subst h2
    cases h
    exact ⟨h1, rfl⟩
theorem rngD_none {lo : Int} {n k : Nat} (h : (rngD lo n)[k]? = none) : n ≤ k := by
  have := List.getElem?_eq_none_iff.mp h
  unfold rngD at this
  rw [List.length_map, List.length_range] at this
  exact this
theorem jok_rng {W : Wd} {H : Hp} {lo : Int} {n : Nat} : JOk K mg Rep W H (Itr lo n) (srcL (rngD lo n)) := by
  refine ⟨fun W' H' m k d _ s h => ?_, fun W' H' m k _ s h => ?_⟩
  · obtain ⟨h1, rfl⟩ := rngD_get (Option.some.inj h)
    refine ⟨h1, fun x H2 hy => ?_⟩
    obtain ⟨rfl, rfl⟩ := hy
    exact ⟨W', Ext.refl _ _, s, rep_int⟩
  · exact rngD_none (Option.some.inj h)
theorem mi_rng1 {a : Expr} {ca : EM} {p pos : Pos} (hm : X.mg "range" = none) (hg : Gl X "range") (ha : MEx X E a ca) (hs : starEach [a] X.env = [(false, eval a X.env)] := by rfl) : MI X E Rep tg (.Call (.Name "range" p) [a] [] pos) (mRng1 ca) := by
  refine (pi_range1 hg hm (ma_cons ha ma_nil hs) hs).imp fun σ H R ⟨W, η, m, s, n, p⟩ => ?_
  have q : Post X.K X.mg E (RlI X.K X.mg Rep) W H R ((mCons ca mNil η m).bind fun xs m1 => match xs with
    | [.int j] => if rngB j = true then .ok (srcLP (rngD 0 j.toNat)) m1 else .stk
    | _ => .stk) := by
    unfold mRng1 at p
    unfold mCons mNil
    cases h : ca η m with
    | ok d m1 => rw [h] at p; cases d <;> exact p
    | exc x m1 => rw [h] at p; exact p
    | stk => rw [h] at p; exact p
  refine ⟨W, η, m, s, n, (Post.bind (Rl := Reps X.K) q).imp fun xs H1 ⟨W1, ds, m1, e1, s1, r1, p1⟩ => ?_⟩
  split at p1
  · rename_i j
    obtain ⟨v, vr, rfl, k1, k2⟩ := r1.cons'
    rw [k2.nil', k1.int']
    split at p1
    · rename_i hj
      have hj := (rngB_iff j).mp hj
      exact ⟨j, rfl, hj.1, hj.2, p1.now s1 jok_rng⟩
    · exact p1.elim
  · exact p1.elim
theorem jok_tup {W : Wd} {H : Hp} {a : Addr} {ds : List D} {vs : List V} (q1 : SqF K H a vs) (q2 : Reps K W H ds vs) : JOk K mg Rep W H (Itt K a) (srcL ds) := by
  refine ⟨fun W' H' m k d e s h => ?_, fun W' H' m k e s h => ?_⟩
  · have t := (e.tr (K := K)).tp a vs q1
    obtain ⟨v, k1, k2⟩ := q2.get (Option.some.inj h)
    refine ⟨⟨vs, v, t.t, k1⟩, fun x H2 hy => ?_⟩
    obtain ⟨rfl, hx⟩ := hy
    have := hx vs t.t
    rw [k1] at this
    cases this
    exact ⟨W', Ext.refl _ _, s, k2.extZ e⟩
  · have t := (e.tr (K := K)).tp a vs q1
    have := List.getElem?_eq_none_iff.mp (Option.some.inj h)
    exact ⟨vs, t.t, by rw [q2.length]; exact this⟩
theorem jok_lst {W : Wd} {H : Hp} {a : Addr} {ds : List D} {vs : List V} (q1 : ∀ W' H', ExtZ W H W' H' → SqL K H' a vs) (q2 : Reps K W H ds vs) : JOk K mg Rep W H (Itl K a) (srcL ds) := by
  refine ⟨fun W' H' m k d e s h => ?_, fun W' H' m k e s h => ?_⟩
  · have t := q1 W' H' e
    obtain ⟨v, k1, k2⟩ := q2.get (Option.some.inj h)
    refine ⟨⟨vs, v, t, k1⟩, fun x H2 hy => ?_⟩
    obtain ⟨rfl, hx⟩ := hy
    have := hx vs t
    rw [k1] at this
    cases this
    exact ⟨W', Ext.refl _ _, s, k2.extZ e⟩
  · have := List.getElem?_eq_none_iff.mp (Option.some.inj h)
    exact ⟨vs, q1 W' H' e, by rw [q2.length]; exact this⟩
theorem jok_ref {W : Wd} {H : Hp} {a : Addr} {i : Nat} (e2 : W.i[i]? = some a) : JOk K mg Rep W H (Itl K a) (srcR i) := by
  refine ⟨fun W' H' m k d e s h => ?_, fun W' H' m k e s h => ?_⟩
  · unfold srcR at h
    cases hl : lstC m[i]? with
    | none => rw [hl] at h; cases h
    | some ds =>
      rw [hl] at h
      obtain ⟨vs, q1, q2⟩ := s.cell i a _ (e.tr (K := K) |>.rf i a e2) (cell_of hl)
      obtain ⟨v, k1, k2⟩ := q2.get (Option.some.inj h)
      refine ⟨⟨vs, v, .inl (.inl q1), k1⟩, fun x H2 hy => ?_⟩
      obtain ⟨rfl, hx⟩ := hy
      have := hx vs (.inl (.inl q1))
      rw [k1] at this
      cases this
      exact ⟨W', Ext.refl _ _, s, k2⟩
  · unfold srcR at h
    cases hl : lstC m[i]? with
    | none => rw [hl] at h; cases h
    | some ds =>
      rw [hl] at h
      obtain ⟨vs, q1, q2⟩ := s.cell i a _ (e.tr (K := K) |>.rf i a e2) (cell_of hl)
      have := List.getElem?_eq_none_iff.mp (Option.some.inj h)
      exact ⟨vs, .inl (.inl q1), by rw [q2.length]; exact this⟩
theorem jok_str {W : Wd} {H : Hp} {x : Str} : JOk K mg Rep W H (Its x) (srcL (x.cps.toList.map fun c => .str ⟨#[c]⟩)) := by
  refine ⟨fun W' H' m k d e s h => ?_, fun W' H' m k e s h => ?_⟩
  · have h := Option.some.inj h
    rw [List.getElem?_map] at h
    cases hc : x.cps.toList[k]? with
    | none => rw [hc] at h; cases h
    | some c =>
      rw [hc] at h
      cases h
      have hl : k < x.cps.size := by
        have := (List.getElem?_eq_some_iff.mp hc).1
        simpa using this
      refine ⟨hl, fun v H2 hy => ?_⟩
      obtain ⟨rfl, c', h1, rfl⟩ := hy
      have : x.cps[k]? = some c := by rw [← Array.getElem?_toList]; exact hc
      rw [this] at h1
      cases h1
      exact ⟨W', Ext.refl _ _, s, rep_str⟩
  · have h := List.getElem?_eq_none_iff.mp (Option.some.inj h)
    rw [List.length_map] at h
    show x.cps.size ≤ k
    simpa using h
theorem mi_it {c : EM} (he : MEx X E it c) : MI X E Rep tg it (mIt c) := by
  refine (((pi_list he).or (pi_tup he)).or (pi_str he)).imp fun σ H R ⟨W, η, m, s, n, p⟩ => ?_
  unfold mIt at p
  cases hc : c η m with
  | stk => rw [hc] at p; exact p.elim
  | exc x m1 =>
    rw [hc] at p
    refine .inl (.inl ⟨W, η, m, s, n, ?_⟩)
    rw [hc]
    exact p
  | ok d m1 =>
    rw [hc] at p
    replace p : Post X.K X.mg E (RlI X.K X.mg Rep) W H R (match srcOf m1 d with | some p => .ok p m1 | none => .stk) := p
    have lst : ∀ ds, (d = .lst ds ∨ d = .scr ds) → Post X.K X.mg E (RlI X.K X.mg Rep) W H R (.ok (srcLP ds) m1) → iList X.K (rdE X.K X.mg E c) σ H R := fun ds hd p => by
      refine ⟨W, η, m, s, n, ?_⟩
      rw [hc]
      intro v W1 H1 e1 s1 r1
      have key : ∃ a vs, v = .ref a ∧ (∀ W' H', ExtZ W1 H1 W' H' → SqL X.K H' a vs) ∧ Reps X.K W1 H1 ds vs := by
        rcases hd with rfl | rfl
        · obtain ⟨a, vs, e, q1, q2⟩ := r1.lst'
          exact ⟨a, vs, e, fun W' H' ez => .inl (.inl (ez.tr (K := X.K) |>.ls a _ q1).1), q2⟩
        · obtain ⟨a, vs, e, q1, q2⟩ := r1.scr'
          exact ⟨a, vs, e, fun W' H' ez => (ez.tr (K := X.K) |>.sc a vs q1).sq, q2⟩
      obtain ⟨a, vs, rfl, q1, q2⟩ := key
      exact ⟨a, rfl, ⟨vs, q1 W1 H1 (Ext.refl _ _).toZ⟩, p _ W1 H1 e1 s1 (jok_lst q1 q2)⟩
    cases d with
    | tup ds =>
      refine .inl (.inr ⟨W, η, m, s, n, ?_⟩)
      rw [hc]
      intro v W1 H1 e1 s1 r1
      obtain ⟨a, vs, rfl, q1, q2⟩ := r1.tupF'
      exact ⟨a, rfl, ⟨vs, q1.t⟩, p _ W1 H1 e1 s1 (jok_tup q1 q2)⟩
    | lst ds => exact .inl (.inl (lst ds (.inl rfl) p))
    | scr ds => exact .inl (.inl (lst ds (.inr rfl) p))
    | str x =>
      refine .inr ⟨W, η, m, s, n, ?_⟩
      rw [hc]
      intro v W1 H1 e1 s1 r1
      exact ⟨x, r1.str', p _ W1 H1 e1 s1 jok_str⟩
    | ref i =>
      refine .inl (.inl ⟨W, η, m, s, n, ?_⟩)
      rw [hc]
      intro v W1 H1 e1 s1 r1
      obtain ⟨a, rfl, e2⟩ := r1.ref'
      replace p : Post X.K X.mg E (RlI X.K X.mg Rep) W H R (match (lstC m1[i]?).map fun ds => (srcR i, ds.length) with | some p => .ok p m1 | none => .stk) := p
      cases hl : lstC m1[i]? with
      | none => rw [hl] at p; exact p.elim
      | some ds =>
        rw [hl] at p
        obtain ⟨vs, q1, q2⟩ := s1.cell i a _ e2 (cell_of hl)
        exact ⟨a, rfl, ⟨vs, .inl (.inl q1)⟩, p _ W1 H1 e1 s1 (jok_ref e2)⟩
    | _ => exact p.elim
end

/-! ### comprehensions -/
section
variable {X : Cx} {E : XK}
theorem mts_nil : PTs X [] (rdT X.K X.mg E mYes) := ⟨fun pins s σ H Q I h => pts_nil.run pins s σ H Q I (by
  obtain ⟨W, η, m, s, n, p⟩ := h
  exact p.now s rfl)⟩
theorem me_lc {Rx : RX} (al : Bool) {elt tg iter : Expr} {ifs : List Expr} {scope : Scope} (own : List (Str × Nat)) {pos : Pos} {ci : IM} {g : GM} {t : TM} {e : EM} (hc : X.calm = true) (hN : X.N.Nodup) (hi : MI X E Rx tg iter ci) (ok : BlkOk X.N X.env.scope scope own)
    (hg : ∀ (s : Shared) (H : Hp) (C : Addr) (cl : List (Str × Addr)) (fp : List Addr), MG (X.blk s H scope (compEnvC scope cl C X.env) fp) E0 Rx (own.map (·.2)) tg g) (ht : ∀ (s : Shared) (H : Hp) (C : Addr) (cl : List (Str × Addr)) (fp : List Addr), PTs (X.blk s H scope (compEnvC scope cl C X.env) fp) ifs (rdT X.K X.mg E0 t))
    (he : ∀ (s : Shared) (H : Hp) (C : Addr) (cl : List (Str × Addr)) (fp : List Addr), MEx (X.blk s H scope (compEnvC scope cl C X.env) fp) E0 elt e) (hs : ∀ x, foldedSetIterable iter X.env x = pure x := by intro _; rfl) :
    MEx X E (.ListComp elt [⟨tg, iter, ifs, 0⟩] scope pos) (mLc (own.map (·.2)) al ci g t e) := (pe_lc hc hN hi ok hg ht he hs).imp fun σ H Q h => lc_of h
theorem ms_setLc {Rx : RX} (al : Bool) {i : Nat} {y : Str} {py : Pos} {elt tg iter : Expr} {ifs : List Expr} {scope : Scope} (own : List (Str × Nat)) {pos spos : Pos} {ci : IM} {g : GM} {t : TM} {e : EM} (hc : X.calm = true) (hN : X.N.Nodup) (hy : X.N[i]? = some y) (hyl : X.env.scope.names.lookup y = some .local)
    (hsw : swapsWith (.ListComp elt [⟨tg, iter, ifs, 0⟩] scope pos) (some (.Name y py)) spos.line X.env = pure true) (hi : MI X E Rx tg iter ci) (ok : BlkOk X.N X.env.scope scope own)
    (hg : ∀ (s : Shared) (H : Hp) (C : Addr) (cl : List (Str × Addr)) (fp : List Addr), MG (X.blk s H scope (compEnvC scope cl C X.env) fp) E0 Rx (own.map (·.2)) tg g) (ht : ∀ (s : Shared) (H : Hp) (C : Addr) (cl : List (Str × Addr)) (fp : List Addr), PTs (X.blk s H scope (compEnvC scope cl C X.env) fp) ifs (rdT X.K X.mg E0 t))
    (he : ∀ (s : Shared) (H : Hp) (C : Addr) (cl : List (Str × Addr)) (fp : List Addr), MEx (X.blk s H scope (compEnvC scope cl C X.env) fp) E0 elt e) (hs : ∀ x, foldedSetIterable iter X.env x = pure x := by intro _; rfl) :
    MS X E (.Assign [.Name y py] (.ListComp elt [⟨tg, iter, ifs, 0⟩] scope pos) spos) (mAsg (mLc (own.map (·.2)) al ci g t e) (gNm i)) := (ps_setLc hc hN hy hyl hsw hi ok hg ht he hs).imp fun Dn σ H ⟨W, η, m, s, n, p⟩ =>
  lc_of ⟨W, η, m, s, n, (PostS.bind (Rl := Rep X.K) p).imp fun x H1 ⟨W1, d, m1, e1, s1, r1, p1⟩ => p1 _ W1 H1 (Ext.refl _ _) s1 ((n.ext e1).set r1)⟩
end

/-! ### defs -/
abbrev FM := List D → Mem → R D
def mFn (n N : Nat) (body : SM) : FM := fun ds m => if ds.length = n then (match body (ds.map some ++ List.replicate (N - ds.length) none) m with
  | .nxt _ m' => .ok .non m'
  | .ret d m' => .ok d m'
  | .exc x m' => .exc x m'
  | _ => .stk) else .stk
def sp0 (K : PySem.W.Frag) (mg : Str → Option Value) (fm : FM) : Sp := fun vs H Q _ => ∃ W m ds, Sim K mg W H m ∧ Reps K W H ds vs ∧ Post K mg E0 (Rep K) W H Q (fm ds m)
section
variable {P : Program} {w : World} {K : PySem.W.Frag} {mg : Str → Option Value} {base : Heap}
theorem renv_start {W : Wd} {H : Hp} {N : List Str} {ds : List D} {vs : List V} (r : Reps K W H ds vs) : REnv K W H (ds.map some ++ List.replicate (N.length - ds.length) none) (L2.start N vs) := by
  refine ⟨?_, fun i d h => ?_⟩
  · unfold L2.start
    rw [List.length_append, List.length_append, List.length_map, List.length_map, List.length_replicate, List.length_replicate, r.length]
  · by_cases hi : i < ds.length
    · rw [List.getElem?_append_left (by rw [List.length_map]; exact hi), List.getElem?_map, List.getElem?_eq_getElem hi] at h
      cases h
      obtain ⟨v, k1, k2⟩ := r.get (List.getElem?_eq_getElem hi)
      refine ⟨v, ?_, k2⟩
      unfold L2.start
      rw [List.getElem?_append_left (by rw [List.length_map, r.length]; exact hi), List.getElem?_map, k1]
      rfl
    · rw [List.getElem?_append_right (by rw [List.length_map]; omega), List.getElem?_replicate] at h
      split at h <;> cases h
theorem fn_ok0 {x qual : Str} {st : Stmt} {f : Addr} {fd : FuncData} {N ps : List Str} {k : Nat} {body : SM} (F : Fun K x qual st f fd) (S : FnScope N ps (defScope st))
    (h : ∀ (cdv : Value) (A : Around) (outer : List Env) (s : Shared) (H : Hp) (E : XK), Room k (A.deeper (envOfC qual (defScope st) s.heap.objs.size f cdv)) → MSs (cxOf CX0 P w K mg base N qual (defScope st) f cdv A outer s H E).nox E0 (defBody st) body) :
    FnOk P w K mg base CX0 (k + 1) f fd ps (sp0 K mg (mFn ps.length N.length body)) := by
  have hlen : ∀ {vs H Q E}, sp0 K mg (mFn ps.length N.length body) vs H Q E → vs.length = ps.length := fun {vs H Q E} ⟨W, m, ds, s, r, p⟩ => by
    unfold mFn at p
    split at p
    · rename_i hl
      rw [r.length]
      exact hl
    · exact p.elim
  refine F.ok S (fun vs H Q E q => hlen q) (fun cdv A outer s H vs Q E hr q => ?_)
  have hl := hlen q
  obtain ⟨W, m, ds, sm, r, p⟩ := q
  refine ⟨_, h cdv A outer s H E hr, W, ds.map some ++ List.replicate (N.length - ds.length) none, m, sm, renv_start r, ?_⟩
  unfold mFn at p
  rw [if_pos (by rw [← r.length]; exact hl)] at p
  revert p
  generalize body (ds.map some ++ List.replicate (N.length - ds.length) none) m = res
  intro p
  cases res with
  | nxt η m' => exact fun σ W' H' e s n => p .non W' H' e s rep_non
  | ret d m' => exact fun v W' H' e s n => p v W' H' e s n
  | exc x m' => exact p
  | brk η m' => exact p.elim
  | cnt η m' => exact p.elim
  | stk => exact p.elim
/-- a def of the module and its mirror -/
structure FnD (P : Program) (w : World) (K : PySem.W.Frag) (mg : Str → Option Value) (base : Heap) (k : Nat) (x : Str) (ps : List Str) (fm : FM) : Prop where
  ex : ∃ f fd, mg x = some (.ref f) ∧ PySem.W.keepIn K (.ref f) = true ∧ Binds K fd ps [] ∧ FnOk P w K mg base CX0 k f fd ps (sp0 K mg fm)
theorem FnD.mono {j k : Nat} {x : Str} {ps : List Str} {fm : FM} (h : FnD P w K mg base j x ps fm) (hk : j ≤ k) : FnD P w K mg base k x ps fm := by
  obtain ⟨f, fd, h1, h2, h3, h4⟩ := h.ex
  exact ⟨f, fd, h1, h2, h3, h4.mono hk⟩
end
def mCall (fm : FM) (a : AM) : EM := fun η m => (a η m).bind fun xs m1 => noX (fm xs m1)
section
variable {X : Cx} {E : XK} {k : Nat} {x : Str} {ps : List Str} {fm : FM} {p pos : Pos} {e : Expr} {es : List Expr} {ca : AM}
theorem me_call (F : FnD X.prog X.w X.K X.mg X.base k x ps fm) (hr : Room k X.A) (hg : Gl X x) (ha : MA X E (e :: es) ca) (hdb : (x == ("__debug__" : Str)) = false := by decide) (he : starEach (e :: es) X.env = (false, eval e X.env) :: starEach es X.env := by rfl) (hpl : (backTo pos (starEach es X.env)).any (·.1) = false := by rfl) :
    MEx X E (.Call (.Name x p) (e :: es) [] pos) (mCall fm ca) := by
  obtain ⟨f, fd, h1, h2, h3, h4⟩ := F.ex
  refine (pe_call h4 hr hg h1 h2 h3 .nil pass0 ha hdb he hpl).imp fun σ H Q ⟨W, η, m, s, n, p⟩ => ?_
  refine ⟨W, η, m, s, n, (Post.bind (Rl := Reps X.K) p).imp fun xs H1 ⟨W1, ds, m1, e1, s1, r1, p1⟩ => ?_⟩
  refine ⟨W1, m1, ds, s1, by rw [List.append_nil]; exact r1, Post.nox p1⟩
end
end Mir

/-! Mir, calls with keywords and defaults. -/
namespace Mir
open PySem PySem.Spec PyProof.Rows L2

/-- picked by places -/
def arr {α : Type} (ix : List Nat) (l : List α) : List α := ix.filterMap fun i => l[i]?
theorem arr_reps {K : PySem.W.Frag} {W : Wd} {H : Hp} {ds : List D} {vs : List V} (r : Reps K W H ds vs) : ∀ ix : List Nat, Reps K W H (arr ix ds) (arr ix vs)
  | [] => reps_nil
  | i :: ix => by
    have ih := arr_reps r ix
    unfold arr at ih ⊢
    rw [List.filterMap_cons, List.filterMap_cons]
    cases h : ds[i]? with
    | none =>
      have : vs[i]? = none := by
        rw [List.getElem?_eq_none_iff] at h ⊢
        rw [r.length]
        exact h
      rw [this]
      exact ih
    | some d =>
      obtain ⟨v, k1, k2⟩ := r.get h
      rw [k1]
      exact reps_cons k2 ih
theorem arr_vals {vs : List V} {us : List Value} (r : Vals vs us) : ∀ ix : List Nat, Vals (arr ix vs) (arr ix us)
  | [] => .nil
  | i :: ix => by
    have ih := arr_vals r ix
    unfold arr at ih ⊢
    rw [List.filterMap_cons, List.filterMap_cons]
    cases h : vs[i]? with
    | none =>
      rw [Vals.none_of r h]
      exact ih
    | some d =>
      obtain ⟨v, k1, k2⟩ := Vals.get r h
      rw [k1]
      exact .cons k2 ih
/-- a call by n places, the keywords ks, the defaults dd behind -/
structure FnK (P : Program) (w : World) (K : PySem.W.Frag) (mg : Str → Option Value) (base : Heap) (k : Nat) (x : Str) (n : Nat) (ks : List Str) (ix : List Nat) (dd : List D) (fm : FM) : Prop where
  ex : ∃ f fd ps dvs dv, mg x = some (.ref f) ∧ PySem.W.keepIn K (.ref f) = true ∧ Vals dvs dv ∧ (∀ W H, Reps K W H dd dvs) ∧
    (∀ (s : Shared) (us ws : List Value), K.In s.heap → us.length = n → ws.length = ks.length → BindsTo s fd ⟨us, ks.zip ws⟩ (ps.zip (arr ix (us ++ ws ++ dv)))) ∧ FnOk P w K mg base CX0 k f fd ps (sp0 K mg fm)
def mCallK (n m : Nat) (ix : List Nat) (dd : List D) (fm : FM) (a b : AM) : EM := fun η mm => (a η mm).bind fun xs m1 => (b η m1).bind fun ys m2 => if xs.length = n ∧ ys.length = m then noX (fm (arr ix (xs ++ ys ++ dd)) m2) else .stk
abbrev MK (X : Cx) (E : XK) (e : List Keyword) (c : AM) : Prop := PK X e (rdA X.K X.mg E c)
section
variable {X : Cx} {E : XK} {k n : Nat} {x : Str} {ks : List Str} {ix : List Nat} {dd : List D} {fm : FM} {p pos kpos : Pos} {e : Expr} {es : List Expr} {kws : List Keyword} {ca cb : AM} {ce : EM} {nm : Option Str}
theorem mk_nil : MK X E [] mNil := pk_nil.imp fun σ H Q ⟨W, η, m, s, n, p⟩ => p.now s reps_nil
theorem mk_cons (ha : MEx X E e ce) (hr : MK X E kws cb) : MK X E (⟨nm, e, kpos⟩ :: kws) (mCons ce cb) := (pk_cons ha hr).imp fun _ _ _ h => cons_of h
theorem run_k {f : Addr} {fd : FuncData} {ps : List Str} {dvs : List V} {dv : List Value} {pins : List (Addr × Obj)} {σ : SL} {H : Hp} {s : Shared} {Q : VK} {us ws : List Value} {vs zs : List V} {W : Wd} {m : Mem} {xs ys : List D}
    (F : FnOk X.prog X.w X.K X.mg X.base CX0 k f fd ps (sp0 X.K X.mg fm)) (hr : Room k X.A) (hdv : Vals dvs dv) (hdd : ∀ W H, Reps X.K W H dd dvs)
    (hb : ∀ (s : Shared) (us ws : List Value), X.K.In s.heap → us.length = n → ws.length = ks.length → BindsTo s fd ⟨us, ks.zip ws⟩ (ps.zip (arr ix (us ++ ws ++ dv))))
    (I : L2.Inv X pins σ H s) (r : Vals vs us) (rz : Vals zs ws) (sm : Sim X.K X.mg W H m) (r1 : Reps X.K W H xs vs) (r2 : Reps X.K W H ys zs) (hx : xs.length = n) (hy : ys.length = ks.length)
    (h : Post X.K X.mg E (Rep X.K) W H Q (noX (fm (arr ix (xs ++ ys ++ dd)) m))) : wpAny (model X.prog X.w) X.A (call (.ref f) us (ks.zip ws)) (EP X pins σ Q) X.xe s := by
  have l1 : us.length = n := by rw [← r.length, r1.length, hx]
  have l2 : ws.length = ks.length := by rw [← rz.length, r2.length, hy]
  have rr : Vals (arr ix (vs ++ zs ++ dvs)) (arr ix (us ++ ws ++ dv)) := arr_vals ((r.append rz).append hdv) ix
  refine wpAny_call (codeAny_mono (F.run X.A X.stack s H ⟨us, ks.zip ws⟩ _ _ Q E0 hr I.env0 (hb s us ws I.kIn l1 l2) rr ⟨W, m, _, sm, arr_reps ((r1.append r2).append (hdd W H)) ix, Post.nox h⟩) fun r s' hq => ?_)
  cases r with
  | error e => exact False.elim hq
  | ok fl =>
    cases fl with
    | ret u => exact I.after hq
    | next => exact False.elim hq
    | brk => exact False.elim hq
    | cont => exact False.elim hq
theorem me_callK (F : FnK X.prog X.w X.K X.mg X.base k x n ks ix dd fm) (hr : Room k X.A) (hg : Gl X x) (ha : MA X E (e :: es) ca) (hkw : MK X E kws cb) (hall : (backToKw pos (keywordEach kws X.env)).all (·.1.isSome) = true := by rfl) (hks : (backToKw pos (keywordEach kws X.env)).filterMap (·.1) = ks := by rfl)
    (hdb : (x == ("__debug__" : Str)) = false := by decide) (he : starEach (e :: es) X.env = (false, eval e X.env) :: starEach es X.env := by rfl)
    (hpl : ((backTo pos (starEach (e :: es) X.env)).any (·.1) || (backToKw pos (keywordEach kws X.env)).any (·.1.isNone)) = false := by rfl) :
    MEx X E (.Call (.Name x p) (e :: es) kws pos) (mCallK n ks.length ix dd fm ca cb) := by
  obtain ⟨f, fd, ps, dvs, dv, h1, h2, h3, h4, h5, h6⟩ := F.ex
  refine ⟨fun pins s σ H Q I ⟨W, η, m, sm, nn, p⟩ => ?_⟩
  refine wpAny_Call_Name_kw (ld_glob I hg h1 ?_ hdb)
  refine PySem.W.callWith_KW (h₀ := X.base) I.ok.mod.kin h2 hall (thn (ha.run pos pins s σ H _ I ⟨W, η, m, sm, nn, Post.bind (Rl := Reps X.K) p⟩) fun us s1 ⟨vs, H1, I1, r, W1, xs, m1, e1, s1', r1, p1⟩ => ?_) hpl he
  refine thn (hkw.run pos pins s1 σ H1 _ I1 ⟨W1, η, m1, s1', nn.ext e1, Post.bind (Rl := Reps X.K) p1⟩) fun ws s2 ⟨zs, H2, I2, rz, W2, ys, m2, e2, s2', r2, p2⟩ => ⟨I2.kIn, ?_⟩
  rw [hks]
  by_cases hl : xs.length = n ∧ ys.length = ks.length
  · rw [if_pos hl] at p2
    exact run_k h6 hr h3 h4 h5 I2 r rz s2' (r1.ext e2) r2 hl.1 hl.2 p2
  · rw [if_neg hl] at p2
    exact p2.elim
/-- by places alone, the defaults behind -/
theorem me_callD (F : FnK X.prog X.w X.K X.mg X.base k x n [] ix dd fm) (hr : Room k X.A) (hg : Gl X x) (ha : MA X E (e :: es) ca)
    (hdb : (x == ("__debug__" : Str)) = false := by decide) (he : starEach (e :: es) X.env = (false, eval e X.env) :: starEach es X.env := by rfl)
    (hpl : ((backTo pos (starEach (e :: es) X.env)).any (·.1) || (backToKw pos (keywordEach [] X.env)).any (·.1.isNone)) = false := by rfl) :
    MEx X E (.Call (.Name x p) (e :: es) [] pos) (mCallK n 0 ix dd fm ca mNil) := me_callK F hr hg ha mk_nil rfl rfl hdb he hpl
end
end Mir

/-! Mir: while, a op= b, a, b = x, y, int, str, defaults. -/
namespace Mir
open PySem PySem.Spec PyProof.Rows L2

/-! ### while -/
def mWh (c : TM) (body : SM) : Nat → Env' → Mem → RS
  | 0, _, _ => .stk
  | f + 1, η, m => (c η m).toS fun k m1 => if k = true then (match body η m1 with
      | .nxt η2 m2 => mWh c body f η2 m2
      | .cnt η2 m2 => mWh c body f η2 m2
      | .brk η2 m2 => .nxt η2 m2
      | r => r) else .nxt η m1
@[irreducible] def FUEL : Nat := 10 ^ 4000
def mWhile (c : TM) (body : SM) : SM := fun η m => mWh c body FUEL η m
section
variable {X : Cx} {E : XK} {pos : Pos}
theorem ms_while {t : Expr} {body : List Stmt} {tc : TM} {cb : SM} (hp : PassesOwn (model X.prog X.w) X.A X.env X.xe) (hc : MT X E t tc) (hb : MSs X E body cb) : MS X E (.While t body [] pos) (mWhile tc cb) := by
  refine (ps_while hp hc hb).imp fun Dn σ H ⟨W, η, m, s, n, p⟩ => ?_
  refine ⟨fun f σ H => ∃ W η m, Sim X.K X.mg W H m ∧ REnv X.K W H η σ ∧ PostS X.K X.mg E W H Dn (mWh tc cb f η m), ⟨FUEL, W, η, m, s, n, p⟩, fun f σ H ⟨W, η, m, s2, n2, p2⟩ => ?_⟩
  cases f with
  | zero => exact p2.elim
  | succ f =>
    unfold mWh at p2
    refine ⟨W, η, m, s2, n2, (PostS.bind (Rl := Same') p2).imp fun b H1 ⟨W1, b', m1, e1, s1, hb', p3⟩ => ?_⟩
    cases (show b' = b from hb')
    cases b with
    | false =>
      rw [if_neg Bool.false_ne_true] at p3 ⊢
      exact p3 σ W1 H1 (Ext.refl _ _) s1 (n2.ext e1)
    | true =>
      rw [if_pos rfl] at p3 ⊢
      refine ⟨fun σ' H' => ∃ W η m, Sim X.K X.mg W H' m ∧ REnv X.K W H' η σ' ∧ PostS X.K X.mg E W H' Dn (mWh tc cb f η m), fun σ' H' h => ⟨f, Nat.lt_succ_self f, h⟩, W1, η, m1, s1, n2.ext e1, ?_⟩
      revert p3
      generalize cb η m1 = r
      intro p3
      cases r with
      | nxt η5 m5 => exact fun σ5 W5 H5 e5 s5 n5 => ⟨W5, η5, m5, s5, n5, PostS.ext e5 p3⟩
      | cnt η5 m5 => exact fun σ5 W5 H5 e5 s5 n5 => ⟨W5, η5, m5, s5, n5, PostS.ext e5 p3⟩
      | brk η5 m5 => exact p3
      | ret d5 m5 => exact p3
      | exc x5 m5 => exact p3
      | stk => exact p3
end

/-! ### a op= e at a name; a, b = x, y -/
def mPar (i j : Nat) (a : AM) : SM := fun η m => (a η m).toS fun xs m1 => match xs with
  | [x, y] => .nxt ((η.set i (some x)).set j (some y)) m1
  | _ => .stk
section
variable {X : Cx} {E : XK} {pos : Pos} {e : Expr} {ce : EM}
theorem ms_par {i j : Nat} {x y : Str} {a b : Expr} {ta : AM} {px py pt : Pos} {kt k2 pt2} (hc : X.calm = true) (hN : X.N.Nodup) (hi : X.N[i]? = some x) (hj : X.N[j]? = some y) (hij : i ≠ j)
    (hx : X.env.scope.names.lookup x = some .local) (hy : X.env.scope.names.lookup y = some .local) (ha : MA X E [a, b] ta)
    (hw : swappedStores [.Tuple [.Name x px, .Name y py] kt pt] (.Tuple [a, b] k2 pt2) X.env = pure (some [x, y]) := by rfl)
    (hs : swapsWithSole [.Tuple [.Name x px, .Name y py] kt pt] (.Tuple [a, b] k2 pt2) pos.line X.env = pure false := by rfl) :
    MS X E (.Assign [.Tuple [.Name x px, .Name y py] kt pt] (.Tuple [a, b] k2 pt2) pos) (mPar i j ta) := (ps_par hc hN hi hj hij hx hy ha hw hs).imp fun Dn σ H ⟨W, η, m, s, n, p⟩ =>
  ⟨W, η, m, s, n, (PostS.bind (Rl := Reps X.K) p).imp fun vs H1 ⟨W1, ds, m1, e1, s1, r1, p1⟩ => by
    split at p1
    · rename_i d1 d2
      obtain ⟨v, vr, rfl, k1, k2⟩ := r1.cons'
      obtain ⟨w, vr2, rfl, k3, k4⟩ := k2.cons'
      rw [k4.nil']
      exact ⟨v, w, rfl, p1 _ W1 H1 (Ext.refl _ _) s1 (((n.ext e1).set k1).set k3)⟩
    · exact p1.elim⟩
end

/-! ### int, str -/
def bInt (ds : List D) (m : Mem) : R D := match ds with
  | [.int i] => .ok (.int i) m
  | [.bl b] => .ok (.int (if b then 1 else 0)) m
  | [.str a] => match PySem.intText? a with
    | some n => if a.length ≤ 640 then .ok (.int n) m else .stk
    | none => .stk
  | _ => .stk
def bStr (ds : List D) (m : Mem) : R D := match ds with
  | [.int i] => if i.natAbs.log2 < 1920 then .ok (.str (Str.ofString (toString i))) m else .stk
  | _ => .stk
section
variable {X : Cx} {E : XK}
theorem cm_int : CallR X (.type "int") (rCM X.K X.mg E bInt) := by
  rintro pins s σ H xs us Q I rv ⟨W, m, ds, sm, rs, p⟩
  unfold bInt at p
  split at p
  · obtain ⟨v, vr, rfl, r1, r2⟩ := rs.cons'
    rw [r2.nil', r1.int'] at rv
    exact call_int1 pins s σ H _ us Q I rv (.inl ⟨_, rfl, p.now sm rep_int⟩)
  · obtain ⟨v, vr, rfl, r1, r2⟩ := rs.cons'
    rw [r2.nil', r1.bl'] at rv
    exact call_int1 pins s σ H _ us Q I rv (.inr ⟨_, rfl, p.now sm rep_int⟩)
  · obtain ⟨v, vr, rfl, r1, r2⟩ := rs.cons'
    rw [r2.nil', r1.str'] at rv
    split at p
    · rename_i n hn
      split at p
      · rename_i hl
        exact call_int_str pins s σ H _ us Q I rv ⟨_, n, rfl, hn, hl, p.now sm rep_int⟩
      · exact p.elim
    · exact p.elim
  · exact p.elim
theorem cm_str : CallR X (.type "str") (rCM X.K X.mg E bStr) := by
  rintro pins s σ H xs us Q I rv ⟨W, m, ds, sm, rs, p⟩
  unfold bStr at p
  split at p
  · rename_i i
    obtain ⟨v, vr, rfl, r1, r2⟩ := rs.cons'
    rw [r2.nil', r1.int'] at rv
    split at p
    · rename_i hl
      exact call_str_int pins s σ H _ us Q I rv ⟨i, rfl, hl, p.now sm rep_str⟩
    · exact p.elim
  · exact p.elim
end

/-! ### a def with defaults -/
section
variable {P : Program} {w : World} {K : PySem.W.Frag} {mg : Str → Option Value} {base : Heap}
/-- a def as it stands behind the top, with the tuple of its defaults -/
structure FunT (K : PySem.W.Frag) (x qual : Str) (st : Stmt) (dvs : List V) (f : Addr) (fd : FuncData) : Prop where
  ex : ∃ (oc : Value) (od : Option Addr) (T : Addr) (o : Obj) (its : List Value) (n : Nat) (kV doc pm : Value) (an : Option Addr) (cdv ct : Value) (osl : Array (Option Value)),
    fd = PySem.W.fnOf x qual (defArgs st) (defBody st) (defScope st) (.ref T) kV doc pm an cdv ct ∧ K.lookup f = some ⟨oc, od, .func fd, osl⟩ ∧ PySem.W.codeIn K cdv qual = true ∧ K.lookup T = some o ∧ o.data = .seq its.toArray n ∧ Vals dvs its
  kp : PySem.W.keepIn K (.ref f) = true
theorem fn_okT {x qual : Str} {st : Stmt} {f : Addr} {fd : FuncData} {N ps : List Str} {k : Nat} {body : SM} {dvs : List V} (F : FunT K x qual st dvs f fd) (S : FnScope N ps (defScope st))
    (h : ∀ (cdv : Value) (A : Around) (outer : List Env) (s : Shared) (H : Hp) (E : XK), Room k (A.deeper (envOfC qual (defScope st) s.heap.objs.size f cdv)) → MSs (cxOf CX0 P w K mg base N qual (defScope st) f cdv A outer s H E).nox E0 (defBody st) body) :
    FnOk P w K mg base CX0 (k + 1) f fd ps (sp0 K mg (mFn ps.length N.length body)) := by
  have hlen : ∀ {vs H Q E}, sp0 K mg (mFn ps.length N.length body) vs H Q E → vs.length = ps.length := fun {vs H Q E} ⟨W, m, ds, s, r, p⟩ => by
    unfold mFn at p
    split at p
    · rename_i hl
      rw [r.length]
      exact hl
    · exact p.elim
  obtain ⟨oc, od, T, o, its, n, kV, doc, pm, an, cdv, ct, osl, rfl, lk, hcd, _⟩ := F.ex
  refine fn_of lk hcd S (fun vs H Q E q => hlen q) fun A outer s H vs Q E hr q => ?_
  have hl := hlen q
  obtain ⟨W, m, ds, sm, r, p⟩ := q
  refine ⟨_, (h cdv A outer s H E hr).nox, W, ds.map some ++ List.replicate (N.length - ds.length) none, m, sm, renv_start r, ?_⟩
  unfold mFn at p
  rw [if_pos (by rw [← r.length]; exact hl)] at p
  revert p
  generalize body (ds.map some ++ List.replicate (N.length - ds.length) none) m = res
  intro p
  cases res with
  | nxt η m' => exact fun σ W' H' e s n => p .non W' H' e s rep_non
  | ret d m' => exact fun v W' H' e s n => p v W' H' e s n
  | exc x m' => exact p
  | brk η m' => exact p.elim
  | cnt η m' => exact p.elim
  | stk => exact p.elim
/-- a call that fills up with the defaults behind -/
theorem fnk_T {x qual : Str} {st : Stmt} {f : Addr} {fd : FuncData} {ps : List Str} {k n : Nat} {ks : List Str} {ix : List Nat} {dd : List D} {dvs : List V} {fm : FM} (F : FunT K x qual st dvs f fd) (hm : mg x = some (.ref f)) (ok : FnOk P w K mg base CX0 k f fd ps (sp0 K mg fm)) (hdd : ∀ W H, Reps K W H dd dvs)
    (h : ∀ (T : Addr) (kV doc pm : Value) (an : Option Addr) (cdv ct : Value) (us ws its : List Value), us.length = n → ws.length = ks.length → its.length = dvs.length →
      ∃ c, bindArgs (PySem.W.fnOf x qual (defArgs st) (defBody st) (defScope st) (.ref T) kV doc pm an cdv ct) ⟨us, ks.zip ws⟩ = seqItems? (.ref T) >>= c ∧ c (some its.toArray) = pure (ps.zip (arr ix (us ++ ws ++ its)))) :
    FnK P w K mg base k x n ks ix dd fm := by
  have kp := F.kp
  obtain ⟨oc, od, T, o, its, nn, kV, doc, pm, an, cdv, ct, osl, rfl, lk, hcd, lT, oT, rv⟩ := F.ex
  refine ⟨f, _, ps, dvs, its, hm, kp, rv, hdd, fun s us ws hK l1 l2 => ?_, ok⟩
  obtain ⟨c, h1, h2⟩ := h T kV doc pm an cdv ct us ws its l1 l2 rv.length.symm
  exact PySem.W.binds_K hK rfl lT oT h1 h2
end
end Mir

/-! Mir: min, max, sum. -/
namespace Mir
open PySem PySem.Spec PyProof.Rows L2

def bMax (ds : List D) (m : Mem) : R D := match ds with
  | [.int i, .int j] => .ok (.int (if j > i then j else i)) m
  | _ => .stk
/-- of a list of ints -/
def minL : List Int → Option Int
  | [] => none
  | x :: xs => some (xs.foldl (fun a b => if b < a then b else a) x)
def maxL : List Int → Option Int
  | [] => none
  | x :: xs => some (xs.foldl (fun a b => if a < b then b else a) x)
def bSel (f : List Int → Option Int) (ds : List D) (m : Mem) : R D := match ds with
  | [d] => match ((seqOf m d).bind (mapO intOf)).bind f with
    | some k => .ok (.int k) m
    | none => .stk
  | _ => .stk
theorem minL_fold : ∀ (xs : List Int) (x : Int), (xs.foldl (fun a b => if b < a then b else a) x ∈ x :: xs) ∧ ∀ y ∈ x :: xs, xs.foldl (fun a b => if b < a then b else a) x ≤ y
  | [], x => by simp
  | z :: xs, x => by
    obtain ⟨h1, h2⟩ := minL_fold xs (if z < x then z else x)
    refine ⟨?_, fun y hy => ?_⟩
    · rw [List.foldl_cons]
      rcases List.mem_cons.mp h1 with e | e
      · rw [e]
        split <;> simp
      · exact List.mem_cons_of_mem _ (List.mem_cons_of_mem _ e)
    · rw [List.foldl_cons]
      have h3 := h2 (if z < x then z else x) List.mem_cons_self
      have h4 : (if z < x then z else x) ≤ x := by split <;> omega
      have h5 : (if z < x then z else x) ≤ z := by split <;> omega
      rcases List.mem_cons.mp hy with e | hy
      · rw [e]; exact Int.le_trans h3 h4
      · rcases List.mem_cons.mp hy with e | hy
        · rw [e]; exact Int.le_trans h3 h5
        · exact h2 y (List.mem_cons_of_mem _ hy)
/-! ### tuples of ints -/
section
variable {prog : Program} {w : World} {A : Around} {E : Value → Shared → Prop} {s : Shared} {l : Addr} {its : List Value} {ns : List Int} {Q : Value → Shared → Prop}
end
section
variable {X : Cx} {E : XK}
theorem cm_max2 (hc : X.calm = true) : CallR X (.builtin "max") (rCM X.K X.mg E bMax) := by
  rintro pins s σ H xs us Q I rv ⟨W, m, ds, sm, rs, p⟩
  unfold bMax at p
  split at p
  · obtain ⟨v, vr, rfl, r1, r2⟩ := rs.cons'
    obtain ⟨v2, vr2, rfl, r3, r4⟩ := r2.cons'
    rw [r4.nil', r1.int', r3.int'] at rv
    exact call_max2 hc pins s σ H _ us Q I rv ⟨_, _, rfl, p.now sm rep_int⟩
  · exact p.elim
end
end Mir

/-! Mir: f-strings, split, partition, a text times an int. -/
namespace Mir
open PySem PySem.Spec PyProof.Rows L2

def fmtD (d : D) (m : Mem) : R D := match d with
  | .str y => if y.length ≤ sizeLine then .ok (.str y) m else .stk
  | .int i => if i.natAbs.log2 < 1920 then .ok (.str (Str.ofString (toString i))) m else .stk
  | _ => .stk
def mFmt (a : EM) : EM := fun η m => (a η m).bind fmtD
def jsD (acc : Str) (k : Str → Mem → R D) (x : D) (m : Mem) : R D := match x with
  | .str y => if (acc ++ y).length ≤ sizeLine then k (acc ++ y) m else .stk
  | _ => .stk
def mJs : List EM → Str → EM
  | [], acc => fun η m => .ok (.str acc) m
  | c :: cs, acc => fun η m => (c η m).bind (jsD acc fun out m1 => mJs cs out η m1)
def gSplit (al : Bool) (d : D) (ds : List D) (m : Mem) : R D := match d, ds with
  | .str a, [.str b] => if (b.length == 0) = false ∧ a.length + 2 ≤ sizeLine then mkL al ((Txt.split a b).map .str) m else .stk
  | _, _ => .stk
def gPartition (d : D) (ds : List D) (m : Mem) : R D := match d, ds with
  | .str a, [.str b] => if (b.length == 0) = false ∧ a.length ≤ sizeLine then .ok (.tup [.str (Txt.partition a b).1, .str (Txt.partition a b).2.1, .str (Txt.partition a b).2.2]) m else .stk
  | _, _ => .stk
section
variable {X : Cx} {E : XK}
theorem me_fmt {e : Expr} {c : EM} {pos : Pos} (he : MEx X E e c) : MEx X E (.FormattedValue e (-1) none pos) (mFmt c) := (pe_fmt he).imp fun σ H Q ⟨W, η, m, s, n, p⟩ => by
  refine ⟨W, η, m, s, n, (Post.bind (Rl := Rep X.K) p).imp fun x H1 ⟨W1, d, m1, e1, s1, r1, p1⟩ => ?_⟩
  unfold fmtD at p1
  split at p1
  · split at p1
    · rename_i y hl
      exact .inl ⟨y, r1.str', hl, p1.now s1 rep_str⟩
    · exact p1.elim
  · split at p1
    · rename_i i hl
      exact .inr ⟨i, r1.int', hl, p1.now s1 rep_str⟩
    · exact p1.elim
  · exact p1.elim
inductive MJ (X : Cx) (E : XK) : List Expr → List EM → Prop where
  | nil : MJ X E [] []
  | cons {e : Expr} {c : EM} {es : List Expr} {cs : List EM} (h : MEx X E e c) (r : MJ X E es cs) : MJ X E (e :: es) (c :: cs)
theorem MJ.pj {es : List Expr} {cs : List EM} (h : MJ X E es cs) : PJ X es (cs.map (rdE X.K X.mg E)) := by
  induction h with
  | nil => exact .nil
  | cons h r ih => exact .cons h ih
theorem js_run {σ : SL} : ∀ (cs : List EM) (acc : Str) (H : Hp) (Q : VK), rdE X.K X.mg E (mJs cs acc) σ H Q → tJs (cs.map (rdE X.K X.mg E)) acc σ H fun out H1 => Q (.str out) H1
  | [], acc, H, Q, ⟨W, η, m, s, n, p⟩ => p.now s rep_str
  | c :: cs, acc, H, Q, ⟨W, η, m, s, n, p⟩ => by
    refine ⟨W, η, m, s, n, (Post.bind (Rl := Rep X.K) p).imp fun x H1 ⟨W1, d, m1, e1, s1, r1, p1⟩ => ?_⟩
    unfold jsD at p1
    split at p1
    · rename_i y
      split at p1
      · rename_i hl
        exact ⟨y, r1.str', hl, js_run cs (acc ++ y) H1 Q ⟨W1, η, m1, s1, n.ext e1, p1⟩⟩
      · exact p1.elim
    · exact p1.elim
theorem me_joined {v1 v2 : Expr} {rest : List Expr} {cs : List EM} {pos : Pos} (h : MJ X E (v1 :: v2 :: rest) cs) : MEx X E (.JoinedStr (v1 :: v2 :: rest) pos) (mJs cs Str.empty) := (pe_joined h.pj).imp fun σ H Q q => js_run cs Str.empty H Q q
theorem reps_strs {K : PySem.W.Frag} {W : Wd} {H : Hp} : ∀ ys : List Str, Reps K W H (ys.map .str) (ys.map V.str)
  | [] => reps_nil
  | y :: ys => ⟨_, _, rfl, rep_str, reps_strs ys⟩
theorem mm_split (al : Bool) : MtR X "str.split" (rMM X.K X.mg E (gSplit al)) := by
  rintro pins s σ H x xs v us Q I rx rxs ⟨W, m, d, ds, sm, rd, rds, p⟩
  unfold gSplit at p
  split at p
  · rename_i a b
    rw [rd.str'] at rx
    obtain ⟨w, wr, rfl, r1, r2⟩ := rds.cons'
    rw [r2.nil', r1.str'] at rxs
    split at p
    · rename_i hl
      exact mt_split pins s σ H _ _ v us Q I rx rxs ⟨a, b, rfl, rfl, hl.1, hl.2, fun pp hp => sm.newL hp (reps_strs _) p⟩
    · exact p.elim
  · exact p.elim
theorem laid_partsF {pins : List (Addr × Obj)} {σ : SL} {H : Hp} {s : Shared} {Q : VK} {x y z : Str} {t u v : Tok} {k : Nat} (I : Inv X pins σ H s) (h : ∀ p o, H p = none → (o.dict = none ∧ o.cls = .type "tuple") → Q (.ref p) (upd H p (.frz o (.tup [.str x, .str y, .str z])))) :
    EP X pins σ Q (.ref s.heap.objs.size) { s with toks := k, heap := s.heap.push { cls := .type "tuple", data := .seq [Value.str x t, .str y u, .str z v].toArray } } := by
  have hp := I.hok.fresh (Nat.le_refl _)
  exact ⟨.ref s.heap.objs.size, upd H s.heap.objs.size (.frz { cls := .type "tuple", data := .seq [Value.str x t, .str y u, .str z v].toArray } (.tup [.str x, .str y, .str z])), I.laid (fun b u q => Heap.get?_push_of_some _ q) (Nat.le_refl _)
    ⟨Heap.get?_push_size _ rfl, by show 3 ≤ sizeLine; decide, [Value.str x t, .str y u, .str z v], .cons ⟨t, rfl⟩ (.cons ⟨u, rfl⟩ (.cons ⟨v, rfl⟩ .nil)), _, Heap.get?_push_size _ rfl, rfl, _, rfl⟩, rfl, h _ _ hp ⟨rfl, rfl⟩⟩
theorem mt_partitionF : MtR X "str.partition" (fun x xs H Q => ∃ a b, x = .str a ∧ xs = [.str b] ∧ (b.length == 0) = false ∧ a.length ≤ sizeLine ∧
    ∀ p o, H p = none → (o.dict = none ∧ o.cls = .type "tuple") → Q (.ref p) (upd H p (.frz o (.tup [.str (Txt.partition a b).1, .str (Txt.partition a b).2.1, .str (Txt.partition a b).2.2])))) := by
  intro pins s σ H x xs v us Q I rx rs h
  obtain ⟨a, b, rfl, rfl, hb, hz, h⟩ := h
  obtain ⟨t, rfl⟩ := rx
  cases rs with
  | cons r1 rs =>
    cases rs
    obtain ⟨u, rfl⟩ := r1
    refine call_meets F.slot_str_partition (typeIs_str _ _ _) F.entry_str_partition (F.args_str_partition_2 _ _) (meets_str_partition a b t u hb hz) ?_
    unfold Txt.partition at h
    revert h
    cases Builtin.Str.occurrences a b 0 a.length 1 with
    | nil => intro h; exact laid_partsF I h
    | cons i r => intro h; exact laid_partsF I h
theorem mm_partition : MtR X "str.partition" (rMM X.K X.mg E gPartition) := by
  rintro pins s σ H x xs v us Q I rx rxs ⟨W, m, d, ds, sm, rd, rds, p⟩
  unfold gPartition at p
  split at p
  · rename_i a b
    rw [rd.str'] at rx
    obtain ⟨w, wr, rfl, r1, r2⟩ := rds.cons'
    rw [r2.nil', r1.str'] at rxs
    split at p
    · rename_i hl
      exact mt_partitionF pins s σ H _ _ v us Q I rx rxs ⟨a, b, rfl, rfl, hl.1, hl.2, fun pp oo hp ho => sm.newT hp ho (reps_strs [_, _, _]) p⟩
    · exact p.elim
  · exact p.elim
end
end Mir

/-! Mir: zip and enumerate, over lists and tuples in any mix. -/
namespace Mir
open PySem PySem.Spec PyProof.Rows L2

/-- a list or a tuple -/
inductive SK where
  | l | t
def SqK (K : PySem.W.Frag) (H : Hp) (k : SK) (a : Addr) (xs : List V) : Prop := match k with
  | .l => SqL K H a xs
  | .t => SqT K H a xs
def IsIt (h : Heap) (k : SK) (it a : Addr) (i : Nat) : Prop := match k with
  | .l => h.IsListIter it a i
  | .t => h.IsTupleIter it a i
def IsSq (h : Heap) (k : SK) (a : Addr) (items : Array Value) : Prop := match k with
  | .l => h.IsList a items
  | .t => h.IsTuple a items
def itObj (k : SK) (a : Addr) : Obj := match k with
  | .l => { cls := .type "list_iterator", data := .fields #[.ref a, .int 0 0] }
  | .t => { cls := .type "tuple_iterator", data := .fields #[.ref a, .int 0 0] }
theorem drawsK {prog : Program} {w : World} {A : Around} (k : SK) (hh : A.handled = none) (it a : Addr) (hne : a ≠ it) (items : Array Value) :
    Draws prog w A it [it, a] items.size (fun i v => items[i]? = some v) (fun i h => IsIt h k it a i ∧ IsSq h k a items) := by
  cases k with
  | l => exact Draws.list hh it a hne items
  | t => exact Draws.tuple hh it a hne items
theorem beginsK (k : SK) (a : Addr) (items : Array Value) : Begins (.ref a) (itObj k a) fun h => IsSq h k a items := by
  cases k with
  | l => exact begins_list a items
  | t => exact begins_tuple a items
theorem itObj_is {h : Heap} {k : SK} {it a : Addr} (e : h.get? it = some (itObj k a)) : IsIt h k it a 0 := by
  cases k with
  | l => exact ⟨_, e, rfl, rfl⟩
  | t => exact ⟨_, e, rfl, rfl⟩
theorem IsIt.get {h : Heap} {k : SK} {it a : Addr} {i : Nat} (x : IsIt h k it a i) : ∃ o vs, h.get? it = some o ∧ o.data = .fields vs := by
  cases k with
  | l => obtain ⟨o, e, _, d⟩ := x; exact ⟨o, _, e, d⟩
  | t => obtain ⟨o, e, _, d⟩ := x; exact ⟨o, _, e, d⟩
theorem IsIt.at {h h' : Heap} {k : SK} {it a : Addr} {i : Nat} (x : IsIt h k it a i) (hk : ∀ o, h.get? it = some o → h'.get? it = some o) : IsIt h' k it a i := by
  cases k with
  | l => exact Heap.IsListIter.at x hk
  | t => exact Heap.IsTupleIter.at x hk
theorem sqK {X : Cx} {pins : List (Addr × Obj)} {σ : SL} {H : Hp} {s : Shared} {k : SK} {a : Addr} {xs : List V} (I : Inv X pins σ H s) (h : SqK X.K H k a xs) : ∃ its : List Value, Vals xs its ∧ IsSq s.heap k a its.toArray ∧ a < s.heap.objs.size ∧ xs.length ≤ sizeLine := by
  cases k with
  | l =>
    obtain ⟨its, r, p, z⟩ := I.list h
    exact ⟨its, r, p.isList, p.lt, z⟩
  | t =>
    obtain ⟨its, r, p, z⟩ := I.tuple h
    obtain ⟨o, e, _⟩ := id p
    exact ⟨its, r, p, Heap.lt_size e, z⟩
theorem sqK_inj {X : Cx} {pins : List (Addr × Obj)} {σ : SL} {H : Hp} {s : Shared} {k : SK} {a : Addr} {xs ys : List V} (I : Inv X pins σ H s) (h : SqK X.K H k a xs) (h' : SqK X.K H k a ys) : xs = ys := by
  cases k with
  | l => exact I.list_inj h h'
  | t => exact I.tuple_inj h h'

/-! ### zip -/
def ItZ (K : PySem.W.Frag) (k1 k2 : SK) (a b : Addr) : It :=
  ⟨fun i H => ∃ (xs ys : List V) (x y : V), SqK K H k1 a xs ∧ SqK K H k2 b ys ∧ xs[i]? = some x ∧ ys[i]? = some y,
    fun i H v H' => ∃ T x y, v = .ref T ∧ H T = none ∧ H' = upd H T (.tup [x, y]) ∧ (∀ xs, SqK K H k1 a xs → xs[i]? = some x) ∧ ∀ ys, SqK K H k2 b ys → ys[i]? = some y,
    fun i H => ∃ xs ys : List V, SqK K H k1 a xs ∧ SqK K H k2 b ys ∧ (i = min xs.length ys.length)⟩
theorem turn_Z {P : Program} {w : World} {K : PySem.W.Frag} {elts : List Expr} {kk : Nat} {tpos : Pos} {k1 k2 : SK} {a b z TI TO i1 i2 : Addr} (D : ZipSep2 z TI TO i1 i2 [i1, a] [i2, b]) :
    Turn P w K (.Tuple elts kk tpos) (ItZ K k1 k2 a b) [z, TI, TO, i1, i2] z (fun i h => IsZip h z TI TO .none ∧ IsTupOf2 h TI (.ref i1) (.ref i2) ∧ (∃ x y, IsTupOf2 h TO x y) ∧ IsIt h k1 i1 a i ∧ IsIt h k2 i2 b i) where
  mem := by simp
  obj := fun i h st c hc => by
    obtain ⟨hz, hTI, ⟨x, y, hTO⟩, h1, h2⟩ := st
    obtain ⟨o1, v1, e1, d1⟩ := h1.get
    obtain ⟨o2, v2, e2, d2⟩ := h2.get
    have e' : c = z ∨ c = TI ∨ c = TO ∨ c = i1 ∨ c = i2 := by simpa using hc
    rcases e' with q | q | q | q | q
    · rw [q]; exact ⟨_, hz, fun v q => nomatch q⟩
    · rw [q]; exact ⟨_, hTI, fun v q => nomatch q⟩
    · rw [q]; exact ⟨_, hTO, fun v q => nomatch q⟩
    · rw [q]; exact ⟨o1, e1, fun v q => by rw [d1] at q; cases q⟩
    · rw [q]; exact ⟨o2, e2, fun v q => by rw [d2] at q; cases q⟩
  keep := fun i h h' st k => by
    obtain ⟨hz, hTI, ⟨x, y, hTO⟩, h1, h2⟩ := st
    exact ⟨k z (by simp) _ hz, k TI (by simp) _ hTI, ⟨x, y, k TO (by simp) _ hTO⟩, h1.at fun o q => k i1 (by simp) o q, h2.at fun o q => k i2 (by simp) o q⟩
  item := by
    intro X hP hw hK hc i pins s σ H E I hf st hg
    subst hP hw hK
    obtain ⟨hz, hTI, hTO, h1, h2⟩ := st
    obtain ⟨xs, ys, x, y, hqx, hqy, hx, hy⟩ := hg
    obtain ⟨its, rv, p, _, _⟩ := sqK I hqx
    obtain ⟨its2, rv2, p2, _, _⟩ := sqK I hqy
    obtain ⟨u, hu, ru⟩ := rv.get hx
    obtain ⟨u2, hu2, ru2⟩ := rv2.get hy
    have hh : X.A.in1.handled = none := I.ok.hd hc
    have n1 : a ≠ i1 := fun e => by
      subst e
      exact absurd D.mem1 (fun _ => by
        obtain ⟨o1, v1, e1, d1⟩ := h1.get
        cases k1 with
        | l => obtain ⟨o, e, _, n, d⟩ := p; rw [e1] at e; cases e; rw [d1] at d; cases d
        | t => obtain ⟨o, e, _, n, d⟩ := p; rw [e1] at e; cases e; rw [d1] at d; cases d)
    have n2 : b ≠ i2 := fun e => by
      subst e
      exact absurd D.mem2 (fun _ => by
        obtain ⟨o1, v1, e1, d1⟩ := h2.get
        cases k2 with
        | l => obtain ⟨o, e, _, n, d⟩ := p2; rw [e1] at e; cases e; rw [d1] at d; cases d
        | t => obtain ⟨o, e, _, n, d⟩ := p2; rw [e1] at e; cases e; rw [d1] at d; cases d)
    have G := GoesN.zip2 (prog := X.prog) (w := X.w) (A := X.A) (elts := elts) (x1 := kk) (pos := tpos) D (drawsK k1 hh i1 a n1 its.toArray) (drawsK k2 hh i2 b n2 its2.toArray)
    have hi1 : i < its.length := (List.getElem?_eq_some_iff.mp hu).1
    have hi2 : i < its2.length := (List.getElem?_eq_some_iff.mp hu2).1
    refine wpAny_mono (G.goes i s (fun v s2 => ∃ x H', Inv X pins σ H' s2 ∧ RelV x v ∧ (ItZ X.K k1 k2 a b).yld i H x H' ∧ (IsZip s2.heap z TI TO .none ∧ IsTupOf2 s2.heap TI (.ref i1) (.ref i2) ∧ (∃ x y, IsTupOf2 s2.heap TO x y) ∧ IsIt s2.heap k1 i1 a (i + 1) ∧ IsIt s2.heap k2 i2 b (i + 1)) ∧ ∀ c ∈ [z, TI, TO, i1, i2], H' c = none) E (by simp; omega) ⟨hz, hTI, hTO, ⟨h1, p⟩, ⟨h2, p2⟩⟩ fun v h' tk hY st' hk ht => ?_) (fun r s1 h => h) (fun _ _ h => h)
    obtain ⟨T, w1, w2, rfl, hT, e1, e2, hTup⟩ := hY
    have e1 : w1 = u := by
      have : its.toArray[i]? = some u := by simpa using hu
      rw [this] at e1; cases e1; rfl
    have e2 : w2 = u2 := by
      have : its2.toArray[i]? = some u2 := by simpa using hu2
      rw [this] at e2; cases e2; rfl
    subst e1 e2
    have hn : H T = none := I.hok.fresh hT
    have new : ObjOk X.prog X.w (upd H T (.tup [x, y])) h' T (.tup [x, y]) :=
      ⟨by show 2 ≤ sizeLine; decide, [w1, w2], .cons ru (.cons ru2 .nil), hTup⟩
    have hsub : ∀ c, c ∈ [z, TO, i1, i2] → c ∈ [z, TI, TO, i1, i2] := fun c hcm => by
      have : c = z ∨ c = TO ∨ c = i1 ∨ c = i2 := by simpa using hcm
      rcases this with q | q | q | q <;> simp [q]
    have I1 : Inv X pins σ (upd H T (.tup [x, y])) { s with heap := h', toks := tk } :=
      I.turnedNew (ch := [z, TO, i1, i2]) (fun c o hb q => hk c o hb q) (fun c hcm => hf c (hsub c hcm)) hT new
    refine ⟨.ref T, _, I1, rfl, ⟨T, x, y, rfl, hn, rfl, fun l hl => by rw [sqK_inj I hl hqx]; exact hx, fun l hl => by rw [sqK_inj I hl hqy]; exact hy⟩, ⟨st'.1, st'.2.1, st'.2.2.1, st'.2.2.2.1.1, st'.2.2.2.2.1⟩, fun c hcm => ?_⟩
    have hlt : c < s.heap.objs.size := by
      obtain ⟨x0, y0, hTO⟩ := hTO
      obtain ⟨o1, v1, e1, d1⟩ := h1.get
      obtain ⟨o2, v2, e2, d2⟩ := h2.get
      have e' : c = z ∨ c = TI ∨ c = TO ∨ c = i1 ∨ c = i2 := by simpa using hcm
      rcases e' with q | q | q | q | q
      · rw [q]; exact Heap.lt_size hz
      · rw [q]; exact Heap.lt_size hTI
      · rw [q]; exact Heap.lt_size hTO
      · rw [q]; exact Heap.lt_size e1
      · rw [q]; exact Heap.lt_size e2
    rw [upd_ne (Nat.ne_of_lt (Nat.lt_of_lt_of_le hlt hT))]
    exact (hf c hcm).1
  done := by
    intro X hP hw hK hc i pins s σ H E I hf st hg
    subst hP hw hK
    obtain ⟨hz, hTI, hTO, h1, h2⟩ := st
    obtain ⟨xs, ys, hqx, hqy, hi⟩ := hg
    obtain ⟨its, rv, p, _, _⟩ := sqK I hqx
    obtain ⟨its2, rv2, p2, _, _⟩ := sqK I hqy
    have hh : X.A.in1.handled = none := I.ok.hd hc
    have n1 : a ≠ i1 := fun e => by
      subst e
      obtain ⟨o1, v1, e1, d1⟩ := h1.get
      cases k1 with
      | l => obtain ⟨o, e, _, n, d⟩ := p; rw [e1] at e; cases e; rw [d1] at d; cases d
      | t => obtain ⟨o, e, _, n, d⟩ := p; rw [e1] at e; cases e; rw [d1] at d; cases d
    have n2 : b ≠ i2 := fun e => by
      subst e
      obtain ⟨o1, v1, e1, d1⟩ := h2.get
      cases k2 with
      | l => obtain ⟨o, e, _, n, d⟩ := p2; rw [e1] at e; cases e; rw [d1] at d; cases d
      | t => obtain ⟨o, e, _, n, d⟩ := p2; rw [e1] at e; cases e; rw [d1] at d; cases d
    have G := GoesN.zip2 (prog := X.prog) (w := X.w) (A := X.A) (elts := elts) (x1 := kk) (pos := tpos) D (drawsK k1 hh i1 a n1 its.toArray) (drawsK k2 hh i2 b n2 its2.toArray)
    have l1 := rv.length
    have l2 := rv2.length
    have e : min its.toArray.size its2.toArray.size = i := by simp; omega
    rw [e] at G
    refine G.stops s (fun s1 => Inv X pins σ H s1) E ⟨hz, hTI, hTO, ⟨h1, p⟩, ⟨h2, p2⟩⟩ fun h' tk hk _ => ?_
    have hsub : ∀ c, c ∈ [z, TO, i1, i2] → c ∈ [z, TI, TO, i1, i2] := fun c hcm => by
      have : c = z ∨ c = TO ∨ c = i1 ∨ c = i2 := by simpa using hcm
      rcases this with q | q | q | q <;> simp [q]
    exact I.turnedL (ch := [z, TO, i1, i2]) (fun c o hb q => hk c o hb q) (fun c hcm => hf c (hsub c hcm))
  self := fun A i s Q E st h => wpAny_pyIter_zip st.1 h
/-- a sequence that zip and enumerate walk: a list or a tuple, told by its data -/
def srcZ (f g : Mem → Option (List D)) : Src := fun k m => match f m, g m with
  | some xs, some ys => match xs[k]?, ys[k]? with
    | some x, some y => some (some (.tup [x, y]))
    | _, _ => if k = min xs.length ys.length then some none else none
  | _, _ => none
/-- how the data of a thing that is walked is read at a memory -/
def rdS1 : D → Mem → Option (List D)
  | .tup ds, _ => some ds
  | d, m => lstOf m d
def mZip (a b : EM) : IM := fun η m => (a η m).bind fun x m1 => (b η m1).bind fun y m2 => match rdS1 x m2, rdS1 y m2 with
  | some xs, some ys => .ok (srcZ (rdS1 x) (rdS1 y), min xs.length ys.length) m2
  | _, _ => .stk
section
variable {K : PySem.W.Frag} {mg : Str → Option Value}
def kindD : D → SK
  | .tup _ => .t
  | _ => .l
/-- a thing that is walked, at any later world -/
theorem walked {W W' : Wd} {H H' : Hp} {m : Mem} {d : D} {v : V} {ds : List D} (r : Rep K W H d v) (e : ExtZ W H W' H') (s : Sim K mg W' H' m) (h : rdS1 d m = some ds) : ∃ a vs, v = .ref a ∧ SqK K H' (kindD d) a vs ∧ Reps K W' H' ds vs := by
  have r' := r.extZ e
  cases d with
  | tup xs =>
    cases h
    obtain ⟨a, vs, e1, q1, q2⟩ := r'.tup'
    exact ⟨a, vs, e1, q1, q2⟩
  | lst xs => obtain ⟨a, vs, e1, q1, q2⟩ := s.lst r' (ds := ds) h; exact ⟨a, vs, e1, q1, q2⟩
  | scr xs => obtain ⟨a, vs, e1, q1, q2⟩ := s.lst r' (ds := ds) h; exact ⟨a, vs, e1, q1, q2⟩
  | ref i => obtain ⟨a, vs, e1, q1, q2⟩ := s.lst r' (ds := ds) h; exact ⟨a, vs, e1, q1, q2⟩
  | _ => cases h
theorem repW_new {W : Wd} {H : Hp} {m : Mem} {T : Addr} {x y : V} {d e : D} (s : Sim K mg W H m) (hT : H T = none) (r1 : Rep K W H d x) (r2 : Rep K W H e y) :
    Ext W H W (upd H T (.tup [x, y])) ∧ Sim K mg W (upd H T (.tup [x, y])) m ∧ RepW K W (upd H T (.tup [x, y])) (.tup [d, e]) (.ref T) :=
  ⟨Ext.fresh hT, s.fresh hT, .inr ⟨[d, e], T, [x, y], rfl, rfl, .inl (.inl upd_same), (reps_cons r1 (reps_one r2)).ext (Ext.fresh hT)⟩⟩
theorem jok_zip {W : Wd} {H : Hp} {x y : D} {a b : Addr} (r1 : Rep K W H x (.ref a)) (r2 : Rep K W H y (.ref b)) : JOk K mg RepW W H (ItZ K (kindD x) (kindD y) a b) (srcZ (rdS1 x) (rdS1 y)) where
  go := fun W' H' m k d e s hs => by
    unfold srcZ at hs
    split at hs
    · rename_i xs ys h1 h2
      obtain ⟨a', vs, e1, q1, q2⟩ := walked r1 e s h1
      obtain ⟨b', us, e2, q3, q4⟩ := walked r2 e s h2
      cases e1
      cases e2
      split at hs
      · rename_i x' y' g1 g2
        cases hs
        obtain ⟨v, k1, k2⟩ := q2.get g1
        obtain ⟨u, k3, k4⟩ := q4.get g2
        refine ⟨⟨vs, us, v, u, q1, q3, k1, k3⟩, fun z H2 hy => ?_⟩
        obtain ⟨T, v', u', rfl, hT, rfl, f1, f2⟩ := hy
        have := f1 vs q1
        rw [k1] at this
        cases this
        have := f2 us q3
        rw [k3] at this
        cases this
        obtain ⟨n1, n2, n3⟩ := repW_new s hT k2 k4
        exact ⟨W', n1, n2, n3⟩
      · split at hs <;> cases hs
    · cases hs
  stop := fun W' H' m k e s hs => by
    unfold srcZ at hs
    split at hs
    · rename_i xs ys h1 h2
      obtain ⟨a', vs, e1, q1, q2⟩ := walked r1 e s h1
      obtain ⟨b', us, e2, q3, q4⟩ := walked r2 e s h2
      cases e1
      cases e2
      split at hs
      · cases hs
      · split at hs
        · rename_i hk
          exact ⟨vs, us, q1, q3, by rw [q2.length, q4.length]; exact hk⟩
        · cases hs
    · cases hs
end
section
variable {X : Cx} {E : XK} {pos : Pos}
theorem nm2 {c x y : Nat} (h1 : c ≠ x) (h2 : c ≠ y) : (show Addr from c) ∉ ([x, y] : List Addr) := fun h => by
  rcases List.mem_cons.mp h with h | h
  · exact h1 h
  · rcases List.mem_cons.mp h with h | h
    · exact h2 h
    · cases h
theorem sep_new (N a b : Nat) (l1 : a < N) (l2 : b < N) : ZipSep2 (N + 4) (N + 2) (N + 3) N (N + 1) [N, a] [N + 1, b] := by
  have e1 : N + 2 ≠ N + 4 := by omega
  have e2 : N + 3 ≠ N + 4 := by omega
  have e3 : N + 2 ≠ N + 3 := by omega
  have e4 : N + 2 ≠ N := by omega
  have e5 : N + 2 ≠ N + 1 := by omega
  exact ⟨e1, e2, e3, e4, List.mem_cons_self, nm2 (by omega) (by omega), nm2 (by omega) (by omega), e5, List.mem_cons_self, nm2 (by omega) (by omega), nm2 (by omega) (by omega), nm2 (by omega) (by omega), nm2 (by omega) (by omega)⟩
theorem mi_zip {e e2 : Expr} {ca cb : EM} {p tpos : Pos} {elts : List Expr} {kk : Nat} (hm : X.mg "zip" = none) (hg : Gl X "zip") (ha : MEx X E e ca) (hb : MEx X E e2 cb)
    (hs : starEach [e, e2] X.env = (false, eval e X.env) :: starEach [e2] X.env := by rfl) (hpl : (backTo pos (starEach [e2] X.env)).any (·.1) = false := by rfl) (hs2 : starEach [e2] X.env = (false, eval e2 X.env) :: starEach [] X.env := by rfl) :
    MI X E RepW (.Tuple elts kk tpos) (.Call (.Name "zip" p) [e, e2] [] pos) (mZip ca cb) := by
  refine ⟨fun pins s σ H R I h => ?_⟩
  obtain ⟨W, η, m, sm, n, pp⟩ := h
  have h2 : (tCons (rdE X.K X.mg E ca) (tCons (rdE X.K X.mg E cb) (rdA X.K X.mg E mNil))) σ H (fun vs H1 => ∃ x y W1 m1 d1 d2, vs = [x, y] ∧ Sim X.K X.mg W1 H1 m1 ∧ Rep X.K W1 H1 d1 x ∧ Rep X.K W1 H1 d2 y ∧ Post X.K X.mg E (RlI X.K X.mg RepW) W1 H1 R (match rdS1 d1 m1, rdS1 d2 m1 with
      | some xs, some ys => .ok (srcZ (rdS1 d1) (rdS1 d2), min xs.length ys.length) m1
      | _, _ => .stk)) := by
    refine ⟨W, η, m, sm, n, (Post.bind (Rl := Rep X.K) pp).imp fun x H1 ⟨W1, d1, m1, e1, s1, r1, p1⟩ => ?_⟩
    refine ⟨W1, η, m1, s1, n.ext e1, (Post.bind (Rl := Rep X.K) p1).imp fun y H2 ⟨W2, d2, m2, e2, s2, r2, p2⟩ => ?_⟩
    exact ⟨W2, η, m2, s2, (n.ext e1).ext e2, fun b W' H' ex s' r' => by
      rw [Reps.nil' r']
      exact ⟨x, y, W', m2, d1, d2, rfl, s', (r1.ext e2).ext ex, r2.ext ex, Post.ext ex p2⟩⟩
  have hA : PA X [e, e2] (tCons (rdE X.K X.mg E ca) (tCons (rdE X.K X.mg E cb) (rdA X.K X.mg E mNil))) := pa_cons ha (pa_cons hb ma_nil hs2) hs
  refine Call_ (ld_blt I hg hm PyProof.Rows.boot_zip (PyProof.Rows.callWith_type1 (thn (hA.run pos pins s σ H _ I h2) fun us s1 ⟨vs, H1, I1, rv, q1⟩ => ?_) hs hpl))
  obtain ⟨x, y, W1, m1, d1, d2, rfl, sm1, r1, r2, q⟩ := q1
  split at q
  · rename_i xs ys h1 h2
    obtain ⟨a, vs, e1, k1, k2⟩ := walked r1 (Ext.refl _ _).toZ sm1 h1
    obtain ⟨b, us', e2, k3, k4⟩ := walked r2 (Ext.refl _ _).toZ sm1 h2
    subst e1 e2
    cases rv with
    | cons r rr =>
    cases rr with
    | cons r' rr =>
    cases rr
    cases r
    cases r'
    obtain ⟨its, rv1, p1, l1, _⟩ := sqK I1 k1
    obtain ⟨its2, rv2, p2, l2, _⟩ := sqK I1 k3
    refine zip_begins2 (beginsK (kindD d1) a its.toArray) (beginsK (kindD d2) b its2.toArray) p1 p2 fun h' hz hTI hTO g1 g2 hsz hk => wpAny_pyIter_zip hz ?_
    have I2 : Inv X pins σ H1 { s1 with heap := h' } := I1.kept (t' := s1.toks) hk
    refine ⟨s1.heap.objs.size + 4, [s1.heap.objs.size + 4, s1.heap.objs.size + 2, s1.heap.objs.size + 3, s1.heap.objs.size, s1.heap.objs.size + 1], _, _, H1, rfl, I2, turn_Z (k1 := kindD d1) (k2 := kindD d2) (a := a) (b := b) ?_, ⟨hz, hTI, ⟨_, _, hTO⟩, itObj_is g1, itObj_is g2⟩, fun c hcm => ?_, ?_⟩
    · exact sep_new _ a b l1 l2
    · have e' : c = s1.heap.objs.size + 4 ∨ c = s1.heap.objs.size + 2 ∨ c = s1.heap.objs.size + 3 ∨ c = s1.heap.objs.size ∨ c = s1.heap.objs.size + 1 := by simpa using hcm
      have hle : s1.heap.objs.size ≤ c := by
        rcases e' with z | z | z | z | z
        · rw [z]; exact Nat.le_add_right _ _
        · rw [z]; exact Nat.le_add_right _ _
        · rw [z]; exact Nat.le_add_right _ _
        · rw [z]; exact Nat.le_refl _
        · rw [z]; exact Nat.le_add_right _ _
      exact I1.fpOk hle (I1.hok.fresh hle)
    · exact q.now sm1 (jok_zip r1 r2)
  · exact q.elim
end

/-! ### enumerate -/
theorem meets_enumerate_new1 {v : Value} {o : Obj} {H : Heap → Prop} (B : Begins v o H) :
    Meets (Builtin.«enumerate.__new__» ⟨[.type "enumerate", v], []⟩) (fun _ R s => H s.heap ∧
      R (.ok (.ret (.ref (s.heap.push o).objs.size))) { s with heap := (s.heap.push o).push { cls := .type "enumerate", data := .fields #[.none, .bool false, .ref s.heap.objs.size, rawInt 0, .none, .none] } }) :=
  .of_wp fun prog w A R s h => by
    obtain ⟨hp, g, d, tk, os⟩ := s; obtain ⟨h1, h⟩ := h
    have hsub := sub_enumerate
    have q1 : ∀ {A' : Around} {E : Value → Shared → Prop} {Q : Value → Shared → Prop}, Q (.ref hp.objs.size) ⟨hp.push o, g, d, tk, os⟩ → wpAny (model prog w) A' (pyIter v) Q E ⟨hp, g, d, tk, os⟩ :=
      fun q => B.iter prog w _ _ ⟨hp, g, d, tk, os⟩ _ h1 q
    wp_walk using q1
    refine wpAny_stack_any fun st => wpAny_pure ?_
    split
    · rename_i c _ _ _ _ _
      cases (c == Value.type "enumerate")
      · wp_walk using q1
        exact ⟨_, rfl, h⟩
      · wp_walk using q1
        exact ⟨_, rfl, h⟩
    · wp_walk using q1
      exact ⟨_, rfl, h⟩
theorem enum_begins1 {prog : Program} {w : World} {A : Around} {E : Value → Shared → Prop} {s : Shared} {v : Value} {o : Obj} {H : Heap → Prop} {Q : Value → Shared → Prop} (B : Begins v o H) (h1 : H s.heap)
    (h : ∀ h', IsEnum h' (s.heap.objs.size + 1) s.heap.objs.size 0 .none → h'.get? s.heap.objs.size = some o → h'.objs.size = s.heap.objs.size + 2 →
      (∀ b o, s.heap.get? b = some o → h'.get? b = some o) → Q (.ref (s.heap.objs.size + 1)) { s with heap := h' }) :
    wpAny (model prog w) A (call (.type "enumerate") [v]) Q E s := by
  refine callType_new F.called_enumerate (by decide) (F.typeCall_enumerate_1 _) (F.newCall_enumerate_1 _) (fun obj => F.args_object_init_2 obj _) F.entry_enumerate_new
    (meets_enumerate_new1 B) ⟨h1, ?_⟩
  have hz : (s.heap.push o).objs.size = s.heap.objs.size + 1 := Heap.size_push ..
  show _ ∧ _
  rw [hz]
  have he : IsEnum ((s.heap.push o).push { cls := .type "enumerate", data := .fields #[.none, .bool false, .ref s.heap.objs.size, rawInt 0, .none, .none] }) (s.heap.objs.size + 1) s.heap.objs.size 0 .none := by
    have := Heap.get?_push_size (s.heap.push o) (o := { cls := .type "enumerate", data := .fields #[.none, .bool false, .ref s.heap.objs.size, rawInt 0, .none, .none] }) rfl
    rw [hz] at this; exact this
  refine ⟨⟨_, he, rfl⟩, h _ he (Heap.get?_push_of_some _ (Heap.get?_push_size _ B.free)) (by rw [Heap.size_push, hz]) fun b o x => Heap.get?_push_of_some _ (Heap.get?_push_of_some _ x)⟩
def ItE (K : PySem.W.Frag) (c : Int) (k : SK) (a : Addr) : It :=
  ⟨fun i H => ∃ (xs : List V) (x : V), SqK K H k a xs ∧ xs[i]? = some x, fun i H v H' => ∃ T x, v = .ref T ∧ H T = none ∧ H' = upd H T (.tup [.int (c + (i : Nat)), x]) ∧ ∀ xs, SqK K H k a xs → xs[i]? = some x, fun i H => ∃ xs : List V, SqK K H k a xs ∧ xs.length = i⟩
theorem IsIt.ne {h : Heap} {k : SK} {it a : Addr} {i : Nat} {its : Array Value} (x : IsIt h k it a i) (p : IsSq h k a its) : a ≠ it := fun e => by
  subst e
  obtain ⟨o1, v1, e1, d1⟩ := x.get
  cases k with
  | l => obtain ⟨o, e, _, n, d⟩ := p; rw [e1] at e; cases e; rw [d1] at d; cases d
  | t => obtain ⟨o, e, _, n, d⟩ := p; rw [e1] at e; cases e; rw [d1] at d; cases d
theorem turn_E {P : Program} {w : World} {K : PySem.W.Frag} {elts : List Expr} {kk : Nat} {tpos : Pos} {c : Int} {k : SK} (a e it : Addr) (hei : e ≠ it) (hea : e ≠ a) :
    Turn P w K (.Tuple elts kk tpos) (ItE K c k a) [e, it] e (fun i h => (∃ old, IsEnum h e it (c + ((i : Nat) : Int)) old) ∧ IsIt h k it a i) where
  mem := by simp
  obj := fun i h st b hb => by
    obtain ⟨⟨old, he⟩, hi⟩ := st
    obtain ⟨o, vs, ho, hd⟩ := hi.get
    have e' : b = e ∨ b = it := by simpa using hb
    rcases e' with z | z
    · rw [z]; exact ⟨_, he, fun v q => nomatch q⟩
    · rw [z]; exact ⟨o, ho, fun v q => by rw [hd] at q; cases q⟩
  keep := fun i h h' st k => let ⟨⟨old, he⟩, hi⟩ := st; ⟨⟨old, k e (by simp) _ he⟩, hi.at fun o q => k it (by simp) o q⟩
  item := by
    intro X hP hw hK hc i pins s σ H E I hf st hg
    subst hP hw hK
    obtain ⟨hE, hit⟩ := st
    obtain ⟨xs, x, hq, hx⟩ := hg
    obtain ⟨its, rv, p, _, _⟩ := sqK I hq
    obtain ⟨u, hu, ru⟩ := rv.get hx
    have hh : X.A.in1.handled = none := I.ok.hd hc
    have G := GoesN.enumFrom (prog := X.prog) (w := X.w) (A := X.A) (elts := elts) (x1 := kk) (pos := tpos) c (drawsK k hh it a (hit.ne p) its.toArray) e hei (nm2 hei hea) List.mem_cons_self
    have hi1 : i < its.length := (List.getElem?_eq_some_iff.mp hu).1
    refine wpAny_mono (G.goes i s (fun v s2 => ∃ x H', Inv X pins σ H' s2 ∧ RelV x v ∧ (ItE X.K c k a).yld i H x H' ∧ ((∃ old, IsEnum s2.heap e it (c + ((i + 1 : Nat) : Int)) old) ∧ IsIt s2.heap k it a (i + 1)) ∧ ∀ b ∈ [e, it], H' b = none) E (by simpa using hi1) ⟨hE, ⟨hit, p⟩⟩ fun v h' tk hY st' hk ht => ?_) (fun r s1 h => h) (fun _ _ h => h)
    obtain ⟨T, t, w1, rfl, hT, e1, hTup⟩ := hY
    have e1 : w1 = u := by
      have : its.toArray[i]? = some u := by simpa using hu
      rw [this] at e1; cases e1; rfl
    subst e1
    have hn : H T = none := I.hok.fresh hT
    have new : ObjOk X.prog X.w (upd H T (.tup [.int (c + (i : Nat)), x])) h' T (.tup [.int (c + (i : Nat)), x]) :=
      ⟨by show 2 ≤ sizeLine; decide, [.int (c + (i : Nat)) t, w1], .cons ⟨_, rfl⟩ (.cons ru .nil), hTup⟩
    have I1 : Inv X pins σ (upd H T (.tup [.int (c + (i : Nat)), x])) { s with heap := h', toks := tk } :=
      I.turnedNew (ch := [e, it]) (fun c o hb q => hk c o hb q) hf hT new
    refine ⟨.ref T, _, I1, rfl, ⟨T, x, rfl, hn, rfl, fun l hl => by rw [sqK_inj I hl hq]; exact hx⟩, ⟨st'.1, st'.2.1⟩, fun b hb => ?_⟩
    have hlt : b < s.heap.objs.size := by
      obtain ⟨old, he⟩ := hE
      obtain ⟨o1, v1, e1, d1⟩ := hit.get
      have e' : b = e ∨ b = it := by simpa using hb
      rcases e' with q | q
      · rw [q]; exact Heap.lt_size he
      · rw [q]; exact Heap.lt_size e1
    rw [upd_ne (Nat.ne_of_lt (Nat.lt_of_lt_of_le hlt hT))]
    exact (hf b hb).1
  done := by
    intro X hP hw hK hc i pins s σ H E I hf st hg
    subst hP hw hK
    obtain ⟨hE, hit⟩ := st
    obtain ⟨xs, hq, hi⟩ := hg
    obtain ⟨its, rv, p, _, _⟩ := sqK I hq
    have hh : X.A.in1.handled = none := I.ok.hd hc
    have G := GoesN.enumFrom (prog := X.prog) (w := X.w) (A := X.A) (elts := elts) (x1 := kk) (pos := tpos) c (drawsK k hh it a (hit.ne p) its.toArray) e hei (nm2 hei hea) List.mem_cons_self
    have l1 := rv.length
    have e : its.toArray.size = i := by simp; omega
    rw [e] at G
    exact G.stops s (fun s1 => Inv X pins σ H s1) E ⟨hE, ⟨hit, p⟩⟩ fun h' tk hk _ => I.turnedL (ch := [_, it]) (fun c o hb q => hk c o hb q) hf
  self := fun A i s Q E st h => let ⟨⟨_, he⟩, _⟩ := st; wpAny_pyIter_enum he h
def srcE (c : Int) (f : Mem → Option (List D)) : Src := fun k m => match f m with
  | some xs => match xs[k]? with
    | some x => some (some (.tup [.int (c + (k : Nat)), x]))
    | none => if k = xs.length then some none else none
  | none => none
def mEnum (c : Int) (a : EM) : IM := fun η m => (a η m).bind fun x m1 => match rdS1 x m1 with
  | some xs => .ok (srcE c (rdS1 x), xs.length) m1
  | none => .stk
theorem jok_enum {K : PySem.W.Frag} {mg : Str → Option Value} {W : Wd} {H : Hp} {x : D} {a : Addr} {c : Int} (r1 : Rep K W H x (.ref a)) : JOk K mg RepW W H (ItE K c (kindD x) a) (srcE c (rdS1 x)) where
  go := fun W' H' m k d e s hs => by
    unfold srcE at hs
    split at hs
    · rename_i xs h1
      obtain ⟨a', vs, e1, q1, q2⟩ := walked r1 e s h1
      cases e1
      split at hs
      · rename_i x' g1
        cases hs
        obtain ⟨v, k1, k2⟩ := q2.get g1
        refine ⟨⟨vs, v, q1, k1⟩, fun z H2 hy => ?_⟩
        obtain ⟨T, v', rfl, hT, rfl, f1⟩ := hy
        have := f1 vs q1
        rw [k1] at this
        cases this
        obtain ⟨n1, n2, n3⟩ := repW_new s hT rep_int k2
        exact ⟨W', n1, n2, n3⟩
      · split at hs <;> cases hs
    · cases hs
  stop := fun W' H' m k e s hs => by
    unfold srcE at hs
    split at hs
    · rename_i xs h1
      obtain ⟨a', vs, e1, q1, q2⟩ := walked r1 e s h1
      cases e1
      split at hs
      · cases hs
      · split at hs
        · rename_i hk
          exact ⟨vs, q1, by rw [q2.length]; exact hk.symm⟩
        · cases hs
    · cases hs
section
variable {X : Cx} {E : XK} {pos : Pos}
theorem enum_fin {f : Sem Value} {R : It → Hp → Prop} {c : Int} {pins : List (Addr × Obj)} {σ : SL} {elts : List Expr} {kk : Nat} {tpos : Pos} {W : Wd} {H : Hp} {m : Mem} {d : D} {x : V} {u : Value} {s : Shared} (I : Inv X pins σ H s) (rv : RelV x u) (sm : Sim X.K X.mg W H m) (r1 : Rep X.K W H d x) (q : Post X.K X.mg E (RlI X.K X.mg RepW) W H R (match rdS1 d m with
      | some xs => .ok (srcE c (rdS1 d), xs.length) m
      | none => .stk)) (hcall : ∀ a its, u = .ref a → IsSq s.heap (kindD d) a its → ∀ {Q : Value → Shared → Prop}, (∀ h', IsEnum h' (s.heap.objs.size + 1) s.heap.objs.size c .none → h'.get? s.heap.objs.size = some (itObj (kindD d) a) → h'.objs.size = s.heap.objs.size + 2 →
      (∀ b o, s.heap.get? b = some o → h'.get? b = some o) → Q (.ref (s.heap.objs.size + 1)) { s with heap := h' }) → wpAny (model X.prog X.w) X.A f Q X.xe s) : wpAny (model X.prog X.w) X.A f (fun v s1 => wpAny (model X.prog X.w) X.A (pyIter v) (PIE X pins σ (.Tuple elts kk tpos) R) X.xe s1) X.xe s := by
  split at q
  · rename_i xs h1
    obtain ⟨a, vs, e1, k1, k2⟩ := walked r1 (Ext.refl _ _).toZ sm h1
    subst e1
    cases rv
    obtain ⟨its, rv1, p1, l1, _⟩ := sqK I k1
    refine hcall a its.toArray rfl p1 fun h' he g1 hsz hk => wpAny_pyIter_enum he ?_
    have I2 : Inv X pins σ H { s with heap := h' } := I.kept (t' := s.toks) hk
    refine ⟨s.heap.objs.size + 1, [s.heap.objs.size + 1, s.heap.objs.size], _, _, H, rfl, I2, turn_E (c := c) (k := kindD d) a (s.heap.objs.size + 1) s.heap.objs.size (Nat.succ_ne_self _) (fun e => ?_), ⟨⟨.none, ?_⟩, itObj_is g1⟩, fun b hb => ?_, q.now sm (jok_enum r1)⟩
    · have l1 : a < s.heap.objs.size := l1
      rw [← e] at l1
      exact absurd (Nat.lt_of_succ_lt l1) (Nat.lt_irrefl _)
    · have : c + ((0 : Nat) : Int) = c := by omega
      rw [this]
      exact he
    · have e' : b = s.heap.objs.size + 1 ∨ b = s.heap.objs.size := by simpa using hb
      have hle : s.heap.objs.size ≤ b := by
        rcases e' with z | z
        · rw [z]; exact Nat.le_add_right _ _
        · rw [z]; exact Nat.le_refl _
      exact I.fpOk hle (I.hok.fresh hle)
  · exact q.elim
theorem mi_enum {e : Expr} {ca : EM} {p tpos : Pos} {elts : List Expr} {kk : Nat} (hm : X.mg "enumerate" = none) (hg : Gl X "enumerate") (ha : MEx X E e ca)
    (hs : starEach [e] X.env = (false, eval e X.env) :: starEach [] X.env := by rfl) :
    MI X E RepW (.Tuple elts kk tpos) (.Call (.Name "enumerate" p) [e] [] pos) (mEnum 0 ca) := by
  refine ⟨fun pins s σ H R I h => ?_⟩
  obtain ⟨W, η, m, sm, n, pp⟩ := h
  have h2 : (tCons (rdE X.K X.mg E ca) (rdA X.K X.mg E mNil)) σ H (fun vs H1 => ∃ x W1 m1 d1, vs = [x] ∧ Sim X.K X.mg W1 H1 m1 ∧ Rep X.K W1 H1 d1 x ∧ Post X.K X.mg E (RlI X.K X.mg RepW) W1 H1 R (match rdS1 d1 m1 with
      | some xs => .ok (srcE 0 (rdS1 d1), xs.length) m1
      | none => .stk)) := by
    refine ⟨W, η, m, sm, n, (Post.bind (Rl := Rep X.K) pp).imp fun x H1 ⟨W1, d1, m1, e1, s1, r1, p1⟩ => ?_⟩
    exact ⟨W1, η, m1, s1, n.ext e1, fun b W' H' ex s' r' => by
      rw [Reps.nil' r']
      exact ⟨x, W', m1, d1, rfl, s', r1.ext ex, Post.ext ex p1⟩⟩
  have hA : PA X [e] (tCons (rdE X.K X.mg E ca) (rdA X.K X.mg E mNil)) := pa_cons ha ma_nil hs
  refine Call_ (ld_blt I hg hm PyProof.Rows.boot_enumerate (PyProof.Rows.callWith_type1 (thn (hA.run pos pins s σ H _ I h2) fun us s1 ⟨vs, H1, I1, rv, q1⟩ => ?_) hs rfl))
  obtain ⟨x, W1, m1, d1, rfl, sm1, r1, q⟩ := q1
  cases rv with
  | cons r rr =>
  cases rr
  exact enum_fin I1 r sm1 r1 q fun a its e p1 {Q} h => by subst e; exact enum_begins1 (beginsK (kindD d1) a its) p1 h
end
end Mir

/-! Mir: pop(i), index in lists, sorted texts, isinstance of tuples of classes, repeated lists and tuples, xs[i] op= e. -/
namespace Mir
open PySem PySem.Spec PyProof.Rows L2

/-! ### pop(i) -/
section
variable {X : Cx} {E : XK}
/-! ### index in a list -/
end
/-! ### sorted texts -/
def insS (x : Str) : List Str → List Str
  | [] => [x]
  | y :: r => if y.cps.toList < x.cps.toList then y :: insS x r else x :: y :: r
def sortS : List Str → List Str
  | [] => []
  | x :: r => insS x (sortS r)
section
variable {X : Cx} {E : XK}
/-! ### isinstance of a tuple of built-in classes -/
def kitsB (t : String) : List String → Option Bool
  | [] => some false
  | T :: r => match kitB t T with
    | some true => some true
    | some false => kitsB t r
    | none => none
theorem kits_any {K : PySem.W.Frag} {t : String} : ∀ {Ts : List String} {b : Bool}, kitsB t Ts = some b → PySem.W.kitAny K (.type t) (Ts.map Value.type) = some b
  | [], b, h => by cases h; exact kitAny_nil
  | T :: r, b, h => by
    unfold kitsB at h
    cases hk : kitB t T with
    | none => rw [hk] at h; cases h
    | some k =>
      rw [hk] at h
      cases k with
      | true => cases h; exact kitAny_cons (kit_ty hk) (fun q => by cases q) (fun _ => rfl)
      | false => exact kitAny_cons (kit_ty hk) (fun _ => kits_any h) (fun q => by cases q)
def mIsiT (Ts : List String) (c : EM) : EM := fun η m => (c η m).bind fun d m1 => match (tyNm m1 d).bind fun t => kitsB t Ts with
  | some b => .ok (.bl b) m1
  | none => .stk
theorem Ext.fr {W : Wd} {H : Hp} {p : Addr} {o : HO} (h : H p = none) : Ext W H W (upd H p o) := Ext.fresh h
theorem me_isiT2 (T1 T2 : String) {e : Expr} {c : EM} {p p2 p3 pt pos : Pos} {kt : Nat} {t1 t2 : Str} (hm : X.mg "isinstance" = none) (hm1 : X.mg t1 = none) (hm2 : X.mg t2 = none) (hg : Gl X "isinstance") (hg1 : Gl X t1) (hg2 : Gl X t2) (hv1 : bootBuiltins t1 = some (.type T1)) (hv2 : bootBuiltins t2 = some (.type T2)) (he : MEx X E e c)
    (hn1 : t1 ≠ "__name__" := by decide) (hd1 : (t1 == ("__debug__" : Str)) = false := by decide) (hn2 : t2 ≠ "__name__" := by decide) (hd2 : (t2 == ("__debug__" : Str)) = false := by decide)
    (ht1 : starEach [.Name t1 p2, .Name t2 p3] X.env = (false, eval (.Name t1 p2) X.env) :: starEach [.Name t2 p3] X.env := by rfl) (ht2 : starEach [.Name t2 p3] X.env = (false, eval (.Name t2 p3) X.env) :: starEach [] X.env := by rfl)
    (hs1 : starEach [e, .Tuple [.Name t1 p2, .Name t2 p3] kt pt] X.env = (false, eval e X.env) :: starEach [.Tuple [.Name t1 p2, .Name t2 p3] kt pt] X.env := by rfl) (hs2 : starEach [.Tuple [.Name t1 p2, .Name t2 p3] kt pt] X.env = (false, eval (.Tuple [.Name t1 p2, .Name t2 p3] kt pt) X.env) :: starEach [] X.env := by rfl)
    (hpl : (backTo pos (starEach [.Tuple [.Name t1 p2, .Name t2 p3] kt pt] X.env)).any (·.1) = false := by rfl) : MEx X E (.Call (.Name "isinstance" p) [e, .Tuple [.Name t1 p2, .Name t2 p3] kt pt] [] pos) (mIsiT [T1, T2] c) := by
  refine (pe_callB call_isiT hg hm boot_isinstance (pa_cons he (pa_cons (pe_tup (pa_cons (pe_bltn (v := .ty T1) hg1 hm1 hv1 rfl hn1 hd1) (pa_cons (pe_bltn (v := .ty T2) hg2 hm2 hv2 rfl hn2 hd2) pa_nil ht2) ht1)) pa_nil hs2) hs1) (by decide) (by decide) hs1 hpl).imp fun σ H Q ⟨W, η, m, s, n, p⟩ => ?_
  refine ⟨W, η, m, s, n, (Post.bind (Rl := Rep X.K) p).imp fun x H1 ⟨W1, d, m1, e1, s1, r1, p1⟩ => ?_⟩
  refine ⟨show 2 ≤ sizeLine by decide, fun tp hp => ?_⟩
  have ex : Ext W1 H1 W1 (upd H1 tp (.tup [.ty T1, .ty T2])) := Ext.fresh hp
  have sx := s1.fresh (o := .tup [.ty T1, .ty T2]) hp
  cases h : tyNm m1 d with
  | none => rw [h] at p1; exact p1.elim
  | some t =>
    rw [h] at p1
    cases hk : kitsB t [T1, T2] with
    | none => simp only [Option.bind_some, hk] at p1; exact p1.elim
    | some b =>
      simp only [Option.bind_some, hk] at p1
      exact ⟨x, tp, [.ty T1, .ty T2], .type t, [.type T1, .type T2], b, rfl, upd_same, .cons (.ty T1) (.cons (.ty T2) .nil), tyNm_ok sx (r1.ext ex) h, kits_any hk, (Post.ext ex p1).now sx rep_bl⟩
end

/-! ### repeated lists and tuples -/
section
variable {X : Cx} {E : XK} {pos : Pos}
/-! ### xs[i] op= e -/
end
end Mir

/-! Mir: tuples repeated. -/
namespace Mir
open PySem PySem.Spec PyProof.Rows L2
section
variable {X : Cx} {E : XK}
end

/-! ### nothing is known of a body -/
def mStk : SM := fun _ _ => .stk
theorem mss_stk {X : Cx} {E : XK} {b : List Stmt} : MSs X E b mStk := ⟨fun pins s σ H Dn I ⟨W, η, m, _, _, h⟩ => h.elim⟩

/-! ### one of several defs is called -/
section
variable {X : Cx} {E : XK} {k : Nat}
end
end Mir

/-! Mir: list(zip(a, b)). -/
namespace Mir
open PySem PySem.Spec PyProof.Rows L2
abbrev ZipN (h : Heap) (z TI TO T : Addr) (b : Bool) : Prop :=
  h.get? z = some { cls := .type "zip", dict := none, data := .fields #[rawInt T, .bool b, .bool false, .ref TI, .ref TO], slots := #[] }
section
variable {prog : Program} {w : World} {A : Around} {E : Value → Shared → Prop} {s : Shared} {z TI TO T i1 i2 : Addr} {fp1 fp2 : List Addr} {n1 n2 i : Nat} {P1 P2 : Nat → Value → Prop} {St1 St2 : Nat → Heap → Prop} {a1 a2 : Value} {b : Bool}
theorem wpAny_alive {M : Model} {a : Addr} {Q : Option Obj → Shared → Prop} (h : Q (s.heap.get? a) s) : wpAny M A (loadIfAlive a) Q E s := by
  intro Γ p hΓ
  show Sem.wp M Γ (.loadIfAlive a .pure) _ _ p s
  rw [Sem.wp_loadIfAlive]
  exact h
theorem notFree {Q : Bool → Shared → Prop} (hz : ZipN s.heap z TI TO T b) (hT : ∃ o, s.heap.get? T = some o)
    (hQ : ∀ h', ZipN h' z TI TO T true → Heap.SameBut z s.heap h' → Q false { s with heap := h' }) : wpAny (model prog w) A (Builtin.SmallTypes.ownedTupleIsFree (.ref z)) Q E s := by
  unfold Builtin.SmallTypes.ownedTupleIsFree
  refine wpAny_bind (wpAny_field hz rfl (x := rawInt T) rfl ?_)
  show wpAny _ _ (loadIfAlive ((T : Int).toNat) >>= _) _ _ _
  refine wpAny_bind (wpAny_alive ?_)
  obtain ⟨o, ho⟩ := hT
  rw [Int.toNat_natCast, ho]
  simp only [Option.isNone_some, Bool.false_eq_true, if_false]
  refine wpAny_bind (wpAny_field hz rfl (x := .bool b) rfl ?_)
  cases b with
  | true =>
    show wpAny _ _ (if (Value.bool true != Value.bool true) = true then _ else _) _ _ _
    rw [if_neg (by decide)]
    refine wpAny_pure ?_
    exact hQ s.heap hz ⟨rfl, fun _ _ => rfl⟩
  | false =>
    show wpAny _ _ (if (Value.bool false != Value.bool true) = true then _ else _) _ _ _
    rw [if_pos (by decide)]
    refine wpAny_bind (wpAny_setField_rec hz (by simp) fun g0 hz0 hs0 => ?_)
    exact wpAny_pure (hQ g0 hz0 hs0)
theorem zipN_next_item {Q : Value → Shared → Prop} (S : ZipSep2 z TI TO i1 i2 fp1 fp2) (D1 : Draws prog w A i1 fp1 n1 P1 St1) (D2 : Draws prog w A i2 fp2 n2 P2 St2)
    (hz : ZipN s.heap z TI TO T b) (hT : ∃ o, s.heap.get? T = some o) (hTI : IsTupOf2 s.heap TI (.ref i1) (.ref i2)) (st1 : St1 i s.heap) (st2 : St2 i s.heap) (hlt1 : i < n1) (hlt2 : i < n2)
    (hQ : ∀ x1 x2 h' tk, P1 i x1 → P2 i x2 → ZipN h' z TI TO T true → St1 (i + 1) h' → St2 (i + 1) h' → IsTupOf2 h' s.heap.objs.size x1 x2 → h'.objs.size = s.heap.objs.size + 1 →
      (∀ c o, c ≠ z → c ≠ i1 → c ≠ i2 → s.heap.get? c = some o → h'.get? c = some o) → Q (.ref s.heap.objs.size) { s with heap := h', toks := tk }) :
    wpAny (model prog w) A (Builtin.«zip.__next__» ⟨[.ref z], []⟩) (fun fin s' => ∃ v, fin = .done (.ret v) ∧ Q v s') E s := by
  obtain ⟨hp, g, d, tk0, os⟩ := s
  show wpAny _ _ (field (.ref z) 2 >>= _) _ _ _
  refine wpAny_bind (wpAny_field hz rfl (x := .bool false) rfl ?_)
  show wpAny _ _ (field (.ref z) 3 >>= _) _ _ _
  refine wpAny_bind (wpAny_field hz rfl (x := .ref TI) rfl ?_)
  refine wpAny_bind (wpAny_seqItems hTI rfl ?_)
  show wpAny _ _ (Builtin.SmallTypes.ownedTupleIsFree (.ref z) >>= _) _ _ _
  refine wpAny_bind (notFree hz hT fun g0 hz0 hs0 => ?_)
  simp only [Bool.false_eq_true, if_false]
  replace hs0 : Heap.SameBut z hp g0 := hs0
  refine wpAny_bind ?_
  rw [← Array.forIn_toList]
  simp only [List.forIn_cons, List.forIn_nil]
  refine wpAny_bind (wpAny_bind (wpAny_holding ?_))
  show wpAny _ _ (Builtin.SmallTypes.nextOf (.ref i1) >>= _) _ _ ⟨g0, g, d, tk0, os⟩
  refine wpAny_bind (D1.item i _ _ _ hlt1 (D1.over st1 hs0 S.zf1) fun x1 p1 tk1 hx1 sn1 hp1 => wpAny_pure ?_)
  replace hp1 : Heap.SameBut i1 g0 p1 := hp1
  refine wpAny_pure ?_
  refine wpAny_bind (wpAny_bind (wpAny_holding ?_))
  show wpAny _ _ (Builtin.SmallTypes.nextOf (.ref i2) >>= _) _ _ ⟨p1, g, d, tk1, os⟩
  refine wpAny_bind (D2.item i _ _ _ hlt2 (D2.over (D2.over st2 hs0 S.zf2) hp1 S.sep1_2) fun x2 p2 tk2 hx2 sn2 hp2 => wpAny_pure ?_)
  replace hp2 : Heap.SameBut i2 p1 p2 := hp2
  refine wpAny_pure ?_
  refine wpAny_pure ?_
  have hsz : p2.objs.size = hp.objs.size := by rw [hp2.1, hp1.1, hs0.1]
  show wpAny _ _ (newTuple [x1, x2] >>= _) _ _ ⟨p2, g, d, tk2, os⟩
  refine wpAny_bind (wpAny_newTuple ?_)
  refine wpAny_pure ⟨_, rfl, ?_⟩
  show Q (.ref p2.objs.size) ⟨p2.push { cls := .type "tuple", data := .seq #[x1, x2] }, g, d, tk2, os⟩
  have hzz : ZipN p2 z TI TO T true := hp2.extBut _ _ S.zi2 (hp1.extBut _ _ S.zi1 hz0)
  have up : ∀ c o, p2.get? c = some o → (p2.push { cls := .type "tuple", data := .seq #[x1, x2] }).get? c = some o := fun c o e => Heap.get?_push_of_some _ e
  have hT2 : IsTupOf2 (p2.push { cls := .type "tuple", data := .seq #[x1, x2] }) p2.objs.size x1 x2 := Heap.get?_push_size _ rfl
  rw [hsz] at hT2 ⊢
  refine hQ x1 x2 _ tk2 hx1 hx2 (up _ _ hzz) (D1.frame _ _ _ (D1.over sn1 hp2 S.sep2_1) fun b hb o e => up b o e) (D2.frame _ _ _ sn2 fun b hb o e => up b o e) hT2 (by rw [Heap.size_push, hsz]) fun c o cz c1 c2 e => ?_
  exact up _ _ (hp2.extBut _ _ c2 (hp1.extBut _ _ c1 (hs0.extBut _ _ cz e)))
theorem zipN_next_end {Q : Fin → Shared → Prop} (S : ZipSep2 z TI TO i1 i2 fp1 fp2) (D1 : Draws prog w A i1 fp1 n1 P1 St1) (D2 : Draws prog w A i2 fp2 n2 P2 St2)
    (hz : ZipN s.heap z TI TO T b) (hT : ∃ o, s.heap.get? T = some o) (hTI : IsTupOf2 s.heap TI (.ref i1) (.ref i2)) (st1 : St1 i s.heap) (st2 : St2 i s.heap) (hle1 : i ≤ n1) (hle2 : i ≤ n2) (hend : i = n1 ∨ i = n2)
    (hE : ∀ h' tk e, (∀ c o, c ≠ z → c ≠ i1 → c ≠ i2 → s.heap.get? c = some o → h'.get? c = some o) → (∃ o, h'.get? e = some o ∧ o.cls = .type "StopIteration") → E (.ref e) { s with heap := h', toks := tk }) :
    wpAny (model prog w) A (Builtin.«zip.__next__» ⟨[.ref z], []⟩) Q E s := by
  obtain ⟨hp, g, d, tk0, os⟩ := s
  show wpAny _ _ (field (.ref z) 2 >>= _) _ _ _
  refine wpAny_bind (wpAny_field hz rfl (x := .bool false) rfl ?_)
  show wpAny _ _ (field (.ref z) 3 >>= _) _ _ _
  refine wpAny_bind (wpAny_field hz rfl (x := .ref TI) rfl ?_)
  refine wpAny_bind (wpAny_seqItems hTI rfl ?_)
  show wpAny _ _ (Builtin.SmallTypes.ownedTupleIsFree (.ref z) >>= _) _ _ _
  refine wpAny_bind (notFree hz hT fun g0 hz0 hs0 => ?_)
  simp only [Bool.false_eq_true, if_false]
  replace hs0 : Heap.SameBut z hp g0 := hs0
  refine wpAny_bind ?_
  rw [← Array.forIn_toList]
  simp only [List.forIn_cons, List.forIn_nil]
  refine wpAny_bind (wpAny_bind (wpAny_holding ?_))
  show wpAny _ _ (Builtin.SmallTypes.nextOf (.ref i1) >>= _) _ _ ⟨g0, g, d, tk0, os⟩
  by_cases hlt1 : i < n1
  · refine wpAny_bind (D1.item i _ _ _ hlt1 (D1.over st1 hs0 S.zf1) fun x1 p1 tk1 hx1 sn1 hp1 => wpAny_pure ?_)
    replace hp1 : Heap.SameBut i1 g0 p1 := hp1
    refine wpAny_pure ?_
    have hi2 : i = n2 := by omega
    refine wpAny_bind (wpAny_bind (wpAny_holding ?_))
    show wpAny _ _ (Builtin.SmallTypes.nextOf (.ref i2) >>= _) _ _ ⟨p1, g, d, tk1, os⟩
    refine wpAny_bind (D2.done ⟨p1, g, d, tk1, os⟩ _ _ (by rw [← hi2]; exact (D2.over (D2.over st2 hs0 S.zf2) hp1 S.sep1_2)) fun q e hq he => ?_)
    replace hq : Heap.ExtBut i2 p1 q := hq
    exact hE q tk1 e (fun c o cz c1 c2 x => hq _ _ c2 (hp1.extBut _ _ c1 (hs0.extBut _ _ cz x))) he
  · have hi1 : i = n1 := by omega
    refine wpAny_bind (D1.done ⟨g0, g, d, tk0, os⟩ _ _ (by rw [← hi1]; exact (D1.over st1 hs0 S.zf1)) fun q e hq he => ?_)
    replace hq : Heap.ExtBut i1 g0 q := hq
    exact hE q tk0 e (fun c o cz c1 c2 x => hq _ _ c1 (hs0.extBut _ _ cz x)) he
theorem pyNext_zipN_item {Q : Option Value → Shared → Prop} (S : ZipSep2 z TI TO i1 i2 fp1 fp2) (D1 : Draws prog w A.in1 i1 fp1 n1 P1 St1) (D2 : Draws prog w A.in1 i2 fp2 n2 P2 St2)
    (hz : ZipN s.heap z TI TO T b) (hT : ∃ o, s.heap.get? T = some o) (hTI : IsTupOf2 s.heap TI (.ref i1) (.ref i2)) (st1 : St1 i s.heap) (st2 : St2 i s.heap) (hlt1 : i < n1) (hlt2 : i < n2)
    (hQ : ∀ x1 x2 h' tk, P1 i x1 → P2 i x2 → ZipN h' z TI TO T true → St1 (i + 1) h' → St2 (i + 1) h' → IsTupOf2 h' s.heap.objs.size x1 x2 → h'.objs.size = s.heap.objs.size + 1 →
      (∀ c o, c ≠ z → c ≠ i1 → c ≠ i2 → s.heap.get? c = some o → h'.get? c = some o) → Q (some (.ref s.heap.objs.size)) { s with heap := h', toks := tk }) :
    wpAny (model prog w) A (pyNext (.ref z)) Q E s := by
  have hTy : s.TypeIs (.ref z) "zip" := ⟨_, hz, rfl⟩
  unfold pyNext
  exact wpAny_bind (wpAny_attempt (wpAny_callSpecial?_slot (name := Str.ofString "__next__") hTy F.slot_zip_next
    (wpAny_call_entry F.slot_zip_next hTy F.entry_zip_next
      (zipN_next_item S D1 D2 hz hT hTI st1 st2 hlt1 hlt2 fun x1 x2 h' tk y1 y2 b1 d1 d2 b5 b6 b7 => wpAny_pure (hQ x1 x2 h' tk y1 y2 b1 d1 d2 b5 b6 b7)) (F.args_zip_next_1 _))))
theorem pyNext_zipN_end {Q : Option Value → Shared → Prop} (S : ZipSep2 z TI TO i1 i2 fp1 fp2) (D1 : Draws prog w A.in1 i1 fp1 n1 P1 St1) (D2 : Draws prog w A.in1 i2 fp2 n2 P2 St2)
    (hz : ZipN s.heap z TI TO T b) (hT : ∃ o, s.heap.get? T = some o) (hTI : IsTupOf2 s.heap TI (.ref i1) (.ref i2)) (st1 : St1 i s.heap) (st2 : St2 i s.heap) (hle1 : i ≤ n1) (hle2 : i ≤ n2) (hend : i = n1 ∨ i = n2)
    (hQ : ∀ h' tk, (∀ c o, c ≠ z → c ≠ i1 → c ≠ i2 → s.heap.get? c = some o → h'.get? c = some o) → Q none { s with heap := h', toks := tk }) : wpAny (model prog w) A (pyNext (.ref z)) Q E s := by
  have hTy : s.TypeIs (.ref z) "zip" := ⟨_, hz, rfl⟩
  unfold pyNext
  refine wpAny_bind (wpAny_attempt (wpAny_callSpecial?_slot (name := Str.ofString "__next__") hTy F.slot_zip_next
    (wpAny_call_entry F.slot_zip_next hTy F.entry_zip_next (zipN_next_end S D1 D2 hz hT hTI st1 st2 hle1 hle2 hend fun h' tk e hk he => ?_) (F.args_zip_next_1 _))))
  obtain ⟨o, ho, hc⟩ := he
  refine wpAny_bind (wpAny_isInstance (T := "StopIteration") (b := true) ⟨o, ho, hc⟩ isSubtype_stop ?_)
  exact wpAny_pure (hQ _ _ hk)
end

/-! ### a zip that list() draws dry -/
structure ZS (z TI TO i1 i2 N : Addr) (St1 St2 : Nat → Heap → Prop) (i : Nat) (h : Heap) : Prop where
  tI : IsTupOf2 h TI (.ref i1) (.ref i2)
  s1 : St1 i h
  s2 : St2 i h
  zz : (IsZip h z TI TO .none ∧ ∃ x y, IsTupOf2 h TO x y) ∨ ∃ (b : Bool) (T : Addr), ZipN h z TI TO T b ∧ T ≠ N ∧ ∃ o, h.get? T = some o
def GoodT (P1 P2 : Nat → Value → Prop) (N : Addr) (h : Heap) (Ts : List Addr) : Prop :=
  Ts.Nodup ∧ ∀ j T, Ts[j]? = some T → N < T ∧ ∃ x1 x2, P1 j x1 ∧ P2 j x2 ∧ IsTupOf2 h T x1 x2
section
variable {prog : Program} {w : World} {A : Around} {E : Value → Shared → Prop} {s : Shared} {z TI TO i1 i2 N : Addr} {fp1 fp2 : List Addr} {n1 n2 i : Nat} {P1 P2 : Nat → Value → Prop} {St1 St2 : Nat → Heap → Prop} {R : Result → Shared → Prop}
theorem ZS.type (x : ZS z TI TO i1 i2 N St1 St2 i s.heap) : s.TypeIs (.ref z) "zip" := by
  rcases x.zz with ⟨h, _⟩ | ⟨b, T, h, _⟩
  · exact ⟨_, h, rfl⟩
  · exact ⟨_, h, rfl⟩
theorem ZS.keep {h h' : Heap} (D1 : Draws prog w A i1 fp1 n1 P1 St1) (D2 : Draws prog w A i2 fp2 n2 P2 St2) (x : ZS z TI TO i1 i2 N St1 St2 i h) (hz : z ≠ N) (hI : TI ≠ N) (hO : TO ≠ N) (h1 : N ∉ fp1) (h2 : N ∉ fp2)
    (k : ∀ b o, b ≠ N → h.get? b = some o → h'.get? b = some o) : ZS z TI TO i1 i2 N St1 St2 i h' := by
  refine ⟨k _ _ hI x.tI, D1.frame _ _ _ x.s1 fun b hb o e => k b o (fun q => h1 (q ▸ hb)) e, D2.frame _ _ _ x.s2 fun b hb o e => k b o (fun q => h2 (q ▸ hb)) e, ?_⟩
  rcases x.zz with ⟨q, a, b, q2⟩ | ⟨b, T, q, nT, o, e⟩
  · exact .inl ⟨k _ _ hz q, a, b, k _ _ hO q2⟩
  · exact .inr ⟨b, T, k _ _ hz q, nT, o, k _ _ nT e⟩
theorem zs_item {Q : Option Value → Shared → Prop} (S : ZipSep2 z TI TO i1 i2 fp1 fp2) (D1 : Draws prog w A.in1 i1 fp1 n1 P1 St1) (D2 : Draws prog w A.in1 i2 fp2 n2 P2 St2) (x : ZS z TI TO i1 i2 N St1 St2 i s.heap) (hN : N < s.heap.objs.size) (hlt1 : i < n1) (hlt2 : i < n2)
    (hQ : ∀ x1 x2 h' tk, P1 i x1 → P2 i x2 → ZS z TI TO i1 i2 N St1 St2 (i + 1) h' → IsTupOf2 h' s.heap.objs.size x1 x2 → h'.objs.size = s.heap.objs.size + 1 →
      (∀ c o, c ≠ z → c ≠ TO → c ≠ i1 → c ≠ i2 → s.heap.get? c = some o → h'.get? c = some o) → Q (some (.ref s.heap.objs.size)) { s with heap := h', toks := tk }) :
    wpAny (model prog w) A (pyNext (.ref z)) Q E s := by
  have tI : ∀ h' : Heap, (∀ c o, c ≠ z → c ≠ TO → c ≠ i1 → c ≠ i2 → s.heap.get? c = some o → h'.get? c = some o) → IsTupOf2 h' TI (.ref i1) (.ref i2) := fun h' k => k _ _ S.TIz S.TITO S.TIi1 S.TIi2 x.tI
  rcases x.zz with ⟨q, a, b, q2⟩ | ⟨b, T, q, nT, hT⟩
  · refine wpAny_pyNext_zipD2_item S D1 D2 q x.tI q2 x.s1 x.s2 hlt1 hlt2 fun x1 x2 h' tk p1 p2 g1 g2 g3 g4 g5 g6 g7 => ?_
    exact hQ x1 x2 h' tk p1 p2 ⟨tI h' g7, g3, g4, .inr ⟨false, _, g1, Nat.ne_of_gt hN, _, g5⟩⟩ g5 g6 g7
  · refine pyNext_zipN_item S D1 D2 q hT x.tI x.s1 x.s2 hlt1 hlt2 fun x1 x2 h' tk p1 p2 g1 g2 g3 g4 g5 g6 => ?_
    have k : ∀ c o, c ≠ z → c ≠ TO → c ≠ i1 → c ≠ i2 → s.heap.get? c = some o → h'.get? c = some o := fun c o c1 _ c2 c3 e => g6 c o c1 c2 c3 e
    refine hQ x1 x2 h' tk p1 p2 ⟨tI h' k, g2, g3, ?_⟩ g4 g5 k
    obtain ⟨o, e⟩ := hT
    by_cases e1 : T = z
    · exact .inr ⟨true, T, g1, nT, ⟨_, (congrArg h'.get? e1).trans g1⟩⟩
    · by_cases e2 : T = i1
      · obtain ⟨o', e'⟩ := D1.live _ _ g2
        exact .inr ⟨true, T, g1, nT, o', e2 ▸ e'⟩
      · by_cases e3 : T = i2
        · obtain ⟨o', e'⟩ := D2.live _ _ g3
          exact .inr ⟨true, T, g1, nT, o', e3 ▸ e'⟩
        · exact .inr ⟨true, T, g1, nT, o, g6 T o e1 e2 e3 e⟩
theorem zs_end {Q : Option Value → Shared → Prop} (S : ZipSep2 z TI TO i1 i2 fp1 fp2) (D1 : Draws prog w A.in1 i1 fp1 n1 P1 St1) (D2 : Draws prog w A.in1 i2 fp2 n2 P2 St2) (x : ZS z TI TO i1 i2 N St1 St2 i s.heap) (hle1 : i ≤ n1) (hle2 : i ≤ n2) (hend : i = n1 ∨ i = n2)
    (hQ : ∀ h' tk, (∀ c o, c ≠ z → c ≠ TO → c ≠ i1 → c ≠ i2 → s.heap.get? c = some o → h'.get? c = some o) → Q none { s with heap := h', toks := tk }) :
    wpAny (model prog w) A (pyNext (.ref z)) Q E s := by
  rcases x.zz with ⟨q, a, b, q2⟩ | ⟨b, T, q, nT, hT⟩
  · refine wpAny_pyNext_zipD2_end S D1 D2 q x.tI q2 x.s1 x.s2 hle1 hle2 hend fun h' tk k => ?_
    exact hQ h' tk k
  · exact pyNext_zipN_end S D1 D2 q hT x.tI x.s1 x.s2 hle1 hle2 hend fun h' tk k => hQ h' tk fun c o c1 _ c2 c3 e => k c o c1 c2 c3 e
theorem zl_loop (S : ZipSep2 z TI TO i1 i2 fp1 fp2) (D1 : Draws prog w A.in1.in1 i1 fp1 n1 P1 St1) (D2 : Draws prog w A.in1.in1 i2 fp2 n2 P2 St2) (hn : min n1 n2 ≤ sizeLine) (hz : z < N) (hI : TI < N) (hO : TO < N) (hi1 : i1 < N) (hi2 : i2 < N) (h1 : N ∉ fp1) (h2 : N ∉ fp2) (res : Value) :
    ∀ (k i : Nat) (s : Shared) (Ts : List Addr) (acc : Array Value) (c : Nat), min n1 n2 - i = k → i ≤ min n1 n2 → ZS z TI TO i1 i2 N St1 St2 i s.heap → s.heap.get? N = some { cls := .type "list", dict := none, data := .seq acc c, slots := #[] } → acc = (Ts.map Value.ref).toArray → Ts.length = i → GoodT P1 P2 N s.heap Ts →
    (∀ h' tk Ts' c', (∀ c o, c ≠ z → c ≠ TO → c ≠ i1 → c ≠ i2 → c ≠ N → s.heap.get? c = some o → h'.get? c = some o) → h'.get? N = some { cls := .type "list", dict := none, data := .seq (Ts'.map Value.ref).toArray c', slots := #[] } → Ts'.length = min n1 n2 → GoodT P1 P2 N h' Ts' → R (.ok (.ret res)) { s with heap := h', toks := tk }) →
    codeAny (model prog w) A (.builtin "list.extend.loop" ⟨[.ref N, .ref z, res], []⟩) R s := by
  have nz : z ≠ N := Nat.ne_of_lt hz
  have nI : TI ≠ N := Nat.ne_of_lt hI
  have nO : TO ≠ N := Nat.ne_of_lt hO
  have n1' : i1 ≠ N := Nat.ne_of_lt hi1
  have n2' : i2 ≠ N := Nat.ne_of_lt hi2
  have good : ∀ (h h' : Heap) (Ts : List Addr), GoodT P1 P2 N h Ts → (∀ c o, c ≠ z → c ≠ TO → c ≠ i1 → c ≠ i2 → c ≠ N → h.get? c = some o → h'.get? c = some o) → GoodT P1 P2 N h' Ts := fun h h' Ts g k => by
    refine ⟨g.1, fun j T e => ?_⟩
    obtain ⟨a, x1, x2, p1, p2, q⟩ := g.2 j T e
    exact ⟨a, x1, x2, p1, p2, k _ _ (Nat.ne_of_gt (Nat.lt_trans hz a)) (Nat.ne_of_gt (Nat.lt_trans hO a)) (Nat.ne_of_gt (Nat.lt_trans hi1 a)) (Nat.ne_of_gt (Nat.lt_trans hi2 a)) (Nat.ne_of_gt a) q⟩
  intro k
  induction k with
  | zero =>
    intro i s Ts acc c hk hi hst hS hacc hl hg hR
    have hin : i = min n1 n2 := by omega
    refine codeAny_builtin F.entry_extend_loop ?_
    rw [Around.under_plainId F.plain_extend_loop _]
    show wpAny _ A.in1 (pyNext (.ref z) >>= _) _ _ s
    refine wpAny_bind (zs_end S D1 D2 hst (by omega) (by omega) (by omega) fun h' tk k => ?_)
    have k' : ∀ c o, c ≠ z → c ≠ TO → c ≠ i1 → c ≠ i2 → c ≠ N → s.heap.get? c = some o → h'.get? c = some o := fun c o a1 a2 a3 a4 _ e => k c o a1 a2 a3 a4 e
    subst hacc
    exact wpAny_pure (hR h' tk Ts c k' (k _ _ nz.symm nO.symm n1'.symm n2'.symm hS) (by omega) (good _ _ _ hg k'))
  | succ k ih =>
    intro i s Ts acc c hk hi hst hS hacc hl hg hR
    have hlt : i < min n1 n2 := by omega
    refine codeAny_builtin F.entry_extend_loop ?_
    rw [Around.under_plainId F.plain_extend_loop _]
    show wpAny _ A.in1 (pyNext (.ref z) >>= _) _ _ s
    have hNs : N < s.heap.objs.size := Heap.lt_size hS
    refine wpAny_bind (zs_item S D1 D2 hst hNs (by omega) (by omega) fun x1 x2 h' tk p1 p2 zs hT hsz k => ?_)
    have hS' := k _ _ nz.symm nO.symm n1'.symm n2'.symm hS
    show wpAny _ A.in1 (updateSeq N (·.push (.ref s.heap.objs.size)) >>= _) _ _ _
    refine wpAny_bind ?_
    have oth : ∀ (f : Obj → Obj) (b : Addr) (o : Obj), b ≠ N → h'.get? b = some o → (h'.update N f).get? b = some o := fun f b o hb e => (Heap.get?_update_other _ _ (Ne.symm hb)).trans e
    have hsz2 : acc.size = i := by rw [hacc]; simp [hl]
    refine wpAny_updateSeq hS' rfl (wpAny_pure ⟨plainId_quiet F.plain_extend_loop _, ih (i + 1) _ (Ts ++ [s.heap.objs.size]) (acc.push (.ref s.heap.objs.size)) _ (by omega) hlt (zs.keep D1 D2 nz nI nO h1 h2 fun b o hb e => oth _ b o hb e) (Heap.get?_update_self _ hS' rfl) (by rw [hacc]; simp) (by simp [hl]) ?_ fun h2 tk2 Ts' c' k2 g1 g2 g3 => ?_⟩)
      (by rw [hsz2]; omega) (by show (acc.push _).size ≤ sizeLine + 1; rw [Array.size_push, hsz2]; omega)
    · refine ⟨?_, fun j T e => ?_⟩
      · rw [List.nodup_append]
        refine ⟨hg.1, by simp, fun a ha b hb => ?_⟩
        have : b = s.heap.objs.size := by simpa using hb
        subst this
        obtain ⟨j, e⟩ := List.mem_iff_getElem?.mp ha
        obtain ⟨_, y1, y2, _, _, q⟩ := hg.2 j a e
        exact Nat.ne_of_lt (Heap.lt_size q)
      · by_cases hj : j < Ts.length
        · rw [List.getElem?_append_left hj] at e
          obtain ⟨a, y1, y2, q1, q2, q⟩ := hg.2 j T e
          exact ⟨a, y1, y2, q1, q2, oth _ _ _ (Nat.ne_of_gt a) (k _ _ (Nat.ne_of_gt (Nat.lt_trans hz a)) (Nat.ne_of_gt (Nat.lt_trans hO a)) (Nat.ne_of_gt (Nat.lt_trans hi1 a)) (Nat.ne_of_gt (Nat.lt_trans hi2 a)) q)⟩
        · rw [List.getElem?_append_right (by omega)] at e
          have hj2 : j - Ts.length = 0 := by
            cases hd : j - Ts.length with
            | zero => rfl
            | succ n => rw [hd] at e; simp at e
          rw [hj2] at e
          cases e
          have : j = i := by omega
          subst this
          exact ⟨hNs, x1, x2, p1, p2, oth _ _ _ (Nat.ne_of_gt hNs) hT⟩
    · exact hR h2 tk2 Ts' c' (fun c o a1 a2 a3 a4 a5 e => k2 c o a1 a2 a3 a4 a5 (oth _ c o a5 (k c o a1 a2 a3 a4 e))) g1 g2 g3

theorem zip_no_len : typeLookup (.type "zip") "__len__" = pure none := by rw [typeLookup_type, builtinLookup_eq_fast]; kernel_rfl
theorem zip_no_hint : typeLookup (.type "zip") "__length_hint__" = pure none := by rw [typeLookup_type, builtinLookup_eq_fast]; kernel_rfl
def ZEnd (s : Shared) (z TO i1 i2 N : Addr) (P1 P2 : Nat → Value → Prop) (n : Nat) (h' : Heap) : Prop :=
  (∀ c o, c ≠ z → c ≠ TO → c ≠ i1 → c ≠ i2 → c ≠ N → s.heap.get? c = some o → h'.get? c = some o) ∧ ∃ Ts c', h'.get? N = some { cls := .type "list", dict := none, data := .seq (Ts.map Value.ref).toArray c', slots := #[] } ∧ Ts.length = n ∧ GoodT P1 P2 N h' Ts
theorem zl_extend (S : ZipSep2 z TI TO i1 i2 fp1 fp2) (D1 : Draws prog w A.in1.in1 i1 fp1 n1 P1 St1) (D2 : Draws prog w A.in1.in1 i2 fp2 n2 P2 St2) (hn : min n1 n2 ≤ sizeLine) (hz : z < N) (hI : TI < N) (hO : TO < N) (hi1 : i1 < N) (hi2 : i2 < N) (h1 : N ∉ fp1) (h2 : N ∉ fp2) (res : Value) (c₀ : Nat)
    (hzip : IsZip s.heap z TI TO .none) (hst : ZS z TI TO i1 i2 N St1 St2 0 s.heap) (hS : s.heap.get? N = some { cls := .type "list", data := .seq #[] c₀ })
    (hR : ∀ h' tk, ZEnd s z TO i1 i2 N P1 P2 (min n1 n2) h' → R (.ok (.ret res)) { s with heap := h', toks := tk }) :
    wpAny (model prog w) A.in1 (Builtin.List.listExtendWith (.ref N) (.ref z) res)
      (fun fin s' => match fin with | .done f => R (.ok f) s' | .again c' => c'.quiet = true ∧ codeAny (model prog w) A c' R s') (fun e s' => R (.error e) s') s := by
  have hSI : N ≠ z := Nat.ne_of_gt hz
  have hT := hst.type
  unfold Builtin.List.listExtendWith
  refine wpAny_bind (wpAny_typeOf hT ?_)
  have e1 : Builtin.List.listSameRef (.ref N) (.ref z) = false := by simp [Builtin.List.listSameRef, hSI]
  have e2 : (Value.type "zip" == Value.type "list") = false := by decide
  have e3 : (Value.type "zip" == Value.type "tuple") = false := by decide
  simp only [e1, e2, e3, Bool.or_false, Bool.false_eq_true, if_false]
  refine wpAny_bind (wpAny_pyIter_zip hzip ?_)
  refine wpAny_bind (wpAny_holding ?_)
  unfold Builtin.List.listLengthHint
  refine wpAny_bind (wpAny_specialOf hT zip_no_len ?_)
  show wpAny _ A.in1 (specialOf (Value.ref z) (Str.ofString "__length_hint__") >>= _) _ _ _
  refine wpAny_bind (wpAny_specialOf hT zip_no_hint ?_)
  refine wpAny_pure ?_
  show wpAny _ A.in1 (rule "list.extend.makes-room" >>= fun _ => Builtin.List.listTouch (.ref N) >>= fun _ =>
    again (.builtin "list.extend.loop" ⟨[.ref N, .ref z, res], []⟩)) _ _ _
  refine wpAny_bind (wpAny_rule ?_)
  refine wpAny_bind ?_
  show wpAny _ A.in1 (updateSeq N (·.push .none) >>= fun _ => updateSeq N (·.pop)) _ _ _
  refine wpAny_bind (wpAny_updateSeq hS rfl ?_)
  have hS₂ := Heap.get?_update_self (Obj.mapSeq (·.push Value.none)) hS rfl
  refine wpAny_updateSeq (hz := by seq_fits) hS₂ rfl ?_
  have hS₃ := Heap.get?_update_self (Obj.mapSeq (·.pop)) hS₂ rfl
  have oth : ∀ b o, b ≠ N → s.heap.get? b = some o → ((s.heap.update N (Obj.mapSeq (·.push Value.none))).update N (Obj.mapSeq (·.pop))).get? b = some o :=
    fun b o hb e => (Heap.get?_update_other _ _ (Ne.symm hb)).trans ((Heap.get?_update_other _ _ (Ne.symm hb)).trans e)
  refine wpAny_pure ⟨plainId_quiet F.plain_extend_loop _, zl_loop S D1 D2 hn hz hI hO hi1 hi2 h1 h2 res (min n1 n2) 0 _ [] _ _ rfl (Nat.zero_le _)
    (hst.keep D1 D2 (Nat.ne_of_lt hz) (Nat.ne_of_lt hI) (Nat.ne_of_lt hO) h1 h2 oth) hS₃ rfl rfl ⟨List.nodup_nil, fun j T e => by simp at e⟩ fun h' tk Ts' c' k g1 g2 g3 => ?_⟩
  exact hR h' tk ⟨fun c o a1 a2 a3 a4 a5 e => k c o a1 a2 a3 a4 a5 (oth c o a5 e), Ts', c', g1, g2, g3⟩
theorem zl_init (S : ZipSep2 z TI TO i1 i2 fp1 fp2) (D1 : Draws prog w A.in1.in1 i1 fp1 n1 P1 St1) (D2 : Draws prog w A.in1.in1 i2 fp2 n2 P2 St2) (hn : min n1 n2 ≤ sizeLine) (hz : z < N) (hI : TI < N) (hO : TO < N) (hi1 : i1 < N) (hi2 : i2 < N) (h1 : N ∉ fp1) (h2 : N ∉ fp2)
    (hzip : IsZip s.heap z TI TO .none) (hst : ZS z TI TO i1 i2 N St1 St2 0 s.heap) (hS : s.heap.get? N = some { cls := .type "list", data := .seq #[] })
    (hR : ∀ h' tk, ZEnd s z TO i1 i2 N P1 P2 (min n1 n2) h' → R (.ok (.ret .none)) { s with heap := h', toks := tk }) :
    wpAny (model prog w) A.in1 (Builtin.«list.__init__» ⟨[.ref N, .ref z], []⟩)
      (fun fin s' => match fin with | .done f => R (.ok f) s' | .again c' => c'.quiet = true ∧ codeAny (model prog w) A c' R s') (fun e s' => R (.error e) s') s := by
  show wpAny _ A.in1 (do let old ← Builtin.List.listItems (.ref N); Builtin.List.listUpdate (.ref N) (fun _ => #[]); letGo old.toList.reverse; Builtin.List.listExtendWith (.ref N) (.ref z) .none) _ _ s
  refine wpAny_bind ?_
  unfold Builtin.List.listItems
  refine wpAny_bind (wpAny_seqItems hS rfl (wpAny_pure ?_))
  show wpAny _ A.in1 (updateSeq N (fun _ => #[]) >>= fun _ => letGo (#[] : Array Value).toList.reverse >>= fun _ => Builtin.List.listExtendWith (.ref N) (.ref z) .none) _ _ s
  refine wpAny_bind (wpAny_updateSeq hS rfl ?_)
  have hS₂ := Heap.get?_update_self (Obj.mapSeq (fun _ => (#[] : Array Value))) hS rfl
  have oth : ∀ b o, b ≠ N → s.heap.get? b = some o → (s.heap.update N (Obj.mapSeq (fun _ => (#[] : Array Value)))).get? b = some o :=
    fun b o hb e => (Heap.get?_update_other _ _ (Ne.symm hb)).trans e
  refine wpAny_bind (wpAny_letGo ?_)
  refine zl_extend S D1 D2 hn hz hI hO hi1 hi2 h1 h2 .none _ (oth _ _ (Nat.ne_of_lt hz) hzip) (hst.keep D1 D2 (Nat.ne_of_lt hz) (Nat.ne_of_lt hI) (Nat.ne_of_lt hO) h1 h2 oth) hS₂ fun h' tk q => ?_
  exact hR h' tk ⟨fun c o a1 a2 a3 a4 a5 e => q.1 c o a1 a2 a3 a4 a5 (oth c o a5 e), q.2⟩
theorem call_list_zip {Q : Value → Shared → Prop} (S : ZipSep2 z TI TO i1 i2 fp1 fp2) (D1 : Draws prog w A.in1.in1.in1 i1 fp1 n1 P1 St1) (D2 : Draws prog w A.in1.in1.in1 i2 fp2 n2 P2 St2) (hn : min n1 n2 ≤ sizeLine)
    (hzip : IsZip s.heap z TI TO .none) (hTI : IsTupOf2 s.heap TI (.ref i1) (.ref i2)) (hTO : ∃ x y, IsTupOf2 s.heap TO x y) (st1 : St1 0 s.heap) (st2 : St2 0 s.heap) (hf1 : ∀ b ∈ fp1, b < s.heap.objs.size) (hf2 : ∀ b ∈ fp2, b < s.heap.objs.size)
    (hQ : ∀ h' tk, ZEnd s z TO i1 i2 s.heap.objs.size P1 P2 (min n1 n2) h' → Q (.ref s.heap.objs.size) { s with heap := h', toks := tk }) :
    wpAny (model prog w) A (call (.type "list") [.ref z]) Q E s := by
  obtain ⟨x, y, hTO⟩ := hTO
  have h1 : s.heap.objs.size ∉ fp1 := fun hm => Nat.lt_irrefl _ (hf1 _ hm)
  have h2 : s.heap.objs.size ∉ fp2 := fun hm => Nat.lt_irrefl _ (hf2 _ hm)
  refine callType_codes (Q₁ := fun obj s₁ => obj = .ref s.heap.objs.size ∧ s₁ = { s with heap := s.heap.push { cls := .type "list", data := .seq #[] } }) F.called_list (F.typeCall_list_1 _) F.entry_list_init
    (code_list_new _ ⟨rfl, rfl⟩) fun obj s₁ q₁ => ?_
  obtain ⟨rfl, rfl⟩ := q₁
  have hS : (s.heap.push { cls := .type "list", data := .seq #[] }).get? s.heap.objs.size = some { cls := .type "list", data := .seq #[] } := Heap.get?_push_size _ rfl
  have up : ∀ b o, s.heap.get? b = some o → (s.heap.push { cls := .type "list", data := .seq #[] }).get? b = some o := fun b o e => Heap.get?_push_of_some _ e
  refine ⟨⟨_, hS, rfl⟩, F.args_list_init_2 _ _, zl_init S D1 D2 hn (Heap.lt_size hzip) (Heap.lt_size hTI) (Heap.lt_size hTO) (hf1 _ S.mem1) (hf2 _ S.mem2) h1 h2 (up _ _ hzip)
    ⟨up _ _ hTI, D1.frame _ _ _ st1 fun b _ o e => up b o e, D2.frame _ _ _ st2 fun b _ o e => up b o e, .inl ⟨up _ _ hzip, x, y, up _ _ hTO⟩⟩ hS fun h' tk q => ?_⟩
  exact ⟨rfl, hQ h' tk ⟨fun c o a1 a2 a3 a4 a5 e => q.1 c o a1 a2 a3 a4 a5 (up c o e), q.2⟩⟩
end
end Mir

/-! Mir: list(zip(a, b)), the rule. -/
namespace Mir
open PySem PySem.Spec PyProof.Rows L2
/-- new things are laid beside all that was -/
theorem grown {X : Cx} {pins : List (Addr × Obj)} {σ : SL} {H H' : Hp} {s : Shared} {h' : Heap} {t' : Nat} (I : Inv X pins σ H s) (k : ∀ b o, s.heap.get? b = some o → h'.get? b = some o) (hu : ∀ b u, H b = some u → H' b = some u)
    (hn : ∀ b, b < s.heap.objs.size → H b = none → H' b = none) (new : ∀ b u, H' b = some u → H b = some u ∨ ObjOk X.prog X.w H' h' b u) : Inv X pins σ H' { s with heap := h', toks := t' } := by
  refine I.step (g' := s.gens) (d' := s.drawn) (ch := []) (fun b hb => nomatch hb) (fun b o _ _ _ e _ => k b o e) (fun b o _ _ _ e _ => ⟨o.slots, k b o e⟩)
    (fun b o _ e n => hn b (Heap.lt_size e) n) (fun b o _ e => ⟨o, k b o e⟩) (fun b xs e => hu b _ e) (fun b o u e => hu b _ e) (fun b ps e => ⟨#[], by rw [hu b _ e]; simp⟩) (fun m hm => ?_) (fun b u e => ?_) I.bare
  · obtain ⟨o, es, ep, ho, r⟩ := hm
    exact ⟨o, es, ep, k _ o ho, r⟩
  · rcases new b u e with q | q
    · exact (I.hok b u q).stay (fun c v _ z => k c v z) (fun c z => hu c _ z) fun c xs z => hu c _ z
    · exact q
def zipW (xs ys : List D) : List D := List.zipWith (fun x y => D.tup [x, y]) xs ys
theorem layAll {P : Program} {w : World} {K : PySem.W.Frag} {mg : Str → Option Value} {W : Wd} {m : Mem} {h' : Heap} : ∀ (xs ys : List D) (vs us : List V) (its its2 : List Value) (Ts : List Addr) (H : Hp), Sim K mg W H m → Reps K W H xs vs → Reps K W H ys us → Vals vs its → Vals us its2 →
    Ts.length = min xs.length ys.length → Ts.Nodup → (∀ T ∈ Ts, H T = none) → (∀ (j : Nat) (T : Addr), Ts[j]? = some T → ∃ x1 x2, its[j]? = some x1 ∧ its2[j]? = some x2 ∧ IsTupOf2 h' T x1 x2) →
    ∃ H', Ext W H W H' ∧ Sim K mg W H' m ∧ Reps K W H' (zipW xs ys) (Ts.map V.ref) ∧ (∀ b, b ∉ Ts → H' b = H b) ∧ ∀ T ∈ Ts, ∃ u, H' T = some u ∧ ∀ H2, ObjOk P w H2 h' T u
  | [], ys, vs, us, its, its2, Ts, H, s, _, _, _, _, hl, _, _, _ => by
    have : Ts = [] := List.length_eq_zero_iff.mp (by simpa using hl)
    subst this
    exact ⟨H, Ext.refl W H, s, by simp [zipW, Reps], fun b _ => rfl, fun T hT => nomatch hT⟩
  | x :: xr, [], vs, us, its, its2, Ts, H, s, _, _, _, _, hl, _, _, _ => by
    have : Ts = [] := List.length_eq_zero_iff.mp (by simpa using hl)
    subst this
    exact ⟨H, Ext.refl W H, s, by simp [zipW, Reps], fun b _ => rfl, fun T hT => nomatch hT⟩
  | x :: xr, y :: yr, vs, us, its, its2, Ts, H, s, r1, r2, v1, v2, hl, nd, fr, hT => by
    cases Ts with
    | nil => simp at hl
    | cons T Tr =>
    obtain ⟨v, vr, rfl, rx, rxr⟩ := r1.cons'
    obtain ⟨u, ur, rfl, ry, ryr⟩ := r2.cons'
    cases v1 with
    | @cons _ v0 _ i0 q1 q2 =>
    cases v2 with
    | @cons _ u0 _ j0 q3 q4 =>
    obtain ⟨x1, x2, e1, e2, eT⟩ := hT 0 T rfl
    cases e1
    cases e2
    have hn : H T = none := fr T List.mem_cons_self
    have ex : Ext W H W (upd H T (.frz { cls := .type "tuple", data := .seq #[v0, u0] } (.tup [v, u]))) := Ext.fresh hn
    have nd' := List.nodup_cons.mp nd
    obtain ⟨H', g1, g2, g3, g4, g5⟩ := layAll (P := P) (w := w) (h' := h') xr yr vr ur i0 j0 Tr _ (s.fresh (o := .frz { cls := .type "tuple", data := .seq #[v0, u0] } (.tup [v, u])) hn) (rxr.ext ex) (ryr.ext ex) q2 q4 (by simp only [List.length_cons] at hl; omega) nd'.2
      (fun T' h => by
        have ne : T' ≠ T := fun e => nd'.1 (e ▸ h)
        rw [upd_ne ne]; exact fr T' (List.mem_cons_of_mem _ h)) (fun j T' e => hT (j + 1) T' e)
    have hT' : H' T = some (.frz { cls := .type "tuple", data := .seq #[v0, u0] } (.tup [v, u])) := by rw [g4 T nd'.1, upd_same]
    refine ⟨H', ex.trans g1, g2, ?_, fun b hb => ?_, fun T' h => ?_⟩
    · exact reps_cons (rep_tup (.inl ⟨_, hT', rfl, rfl⟩) (reps_cons ((rx.ext ex).ext g1) (reps_one ((ry.ext ex).ext g1)))) g3
    · have ne : b ≠ T := fun e => hb (e ▸ List.mem_cons_self)
      rw [g4 b fun h => hb (List.mem_cons_of_mem _ h), upd_ne ne]
    · rcases List.mem_cons.mp h with e | h
      · rw [e]
        exact ⟨_, hT', fun H2 => ⟨eT, by show 2 ≤ sizeLine; decide, [v0, u0], .cons q1 (.cons q3 .nil), ⟨_, eT, rfl, _, rfl⟩⟩⟩
      · exact g5 T' h

theorem valsRef : ∀ Ts : List Addr, Vals (Ts.map V.ref) (Ts.map Value.ref)
  | [] => .nil
  | T :: r => .cons rfl (valsRef r)
theorem IsSq.at {h h' : Heap} {k : SK} {a : Addr} {its : Array Value} (x : IsSq h k a its) (hk : ∀ c o, h.get? c = some o → h'.get? c = some o) : IsSq h' k a its := by
  cases k with
  | l => obtain ⟨o, e, r⟩ := x; exact ⟨o, hk _ _ e, r⟩
  | t => obtain ⟨o, e, r⟩ := x; exact ⟨o, hk _ _ e, r⟩
def mListZip (al : Bool) (a b : EM) : EM := fun η m => (a η m).bind fun x m1 => (b η m1).bind fun y m2 => match rdS1 x m2, rdS1 y m2 with
  | some xs, some ys => mkL al (zipW xs ys) m2
  | _, _ => .stk
section
variable {X : Cx} {E : XK} {pos : Pos}
theorem me_listZip {al : Bool} {e e2 : Expr} {ca cb : EM} {p p2 pos2 : Pos} (hc : X.calm = true) (hml : X.mg "list" = none) (hgl : Gl X "list") (hm : X.mg "zip" = none) (hg : Gl X "zip") (ha : MEx X E e ca) (hb : MEx X E e2 cb)
    (he : starEach [Expr.Call (.Name "zip" p2) [e, e2] [] pos2] X.env = (false, eval (.Call (.Name "zip" p2) [e, e2] [] pos2) X.env) :: starEach [] X.env := by rfl)
    (hs : starEach [e, e2] X.env = (false, eval e X.env) :: starEach [e2] X.env := by rfl) (hpl : (backTo pos2 (starEach [e2] X.env)).any (·.1) = false := by rfl) (hs2 : starEach [e2] X.env = (false, eval e2 X.env) :: starEach [] X.env := by rfl) :
    MEx X E (.Call (.Name "list" p) [.Call (.Name "zip" p2) [e, e2] [] pos2] [] pos) (mListZip al ca cb) := by
  refine ⟨fun pins s σ H R I h => ?_⟩
  obtain ⟨W, η, m, sm, n, pp⟩ := h
  have h2 : (tCons (rdE X.K X.mg E ca) (tCons (rdE X.K X.mg E cb) (rdA X.K X.mg E mNil))) σ H (fun vs H1 => ∃ x y W1 m1 d1 d2, vs = [x, y] ∧ Sim X.K X.mg W1 H1 m1 ∧ Rep X.K W1 H1 d1 x ∧ Rep X.K W1 H1 d2 y ∧ Post X.K X.mg E (Rep X.K) W1 H1 R (match rdS1 d1 m1, rdS1 d2 m1 with
      | some xs, some ys => mkL al (zipW xs ys) m1
      | _, _ => .stk)) := by
    refine ⟨W, η, m, sm, n, (Post.bind (Rl := Rep X.K) pp).imp fun x H1 ⟨W1, d1, m1, e1, s1, r1, p1⟩ => ?_⟩
    refine ⟨W1, η, m1, s1, n.ext e1, (Post.bind (Rl := Rep X.K) p1).imp fun y H2 ⟨W2, d2, m2, e2, s2, r2, p2⟩ => ?_⟩
    exact ⟨W2, η, m2, s2, (n.ext e1).ext e2, fun b W' H' ex s' r' => by
      rw [Reps.nil' r']
      exact ⟨x, y, W', m2, d1, d2, rfl, s', (r1.ext e2).ext ex, r2.ext ex, Post.ext ex p2⟩⟩
  have hA : PA X [e, e2] (tCons (rdE X.K X.mg E ca) (tCons (rdE X.K X.mg E cb) (rdA X.K X.mg E mNil))) := pa_cons ha (pa_cons hb ma_nil hs2) hs
  refine wpAny_Call_Name_kw (ld_blt I hgl hml PyProof.Rows.boot_list ?_)
  refine PyProof.Rows.callWith_type1 ?_ he rfl
  rw [he]
  show wpAny _ _ (spliced ((false, eval (.Call (.Name "zip" p2) [e, e2] [] pos2) X.env) :: backTo pos (starEach [] X.env))) _ _ s
  refine Calls.spliced_cons ?_
  refine Call_ (ld_blt I hg hm PyProof.Rows.boot_zip (PyProof.Rows.callWith_type1 (thn (hA.run pos2 pins s σ H _ I h2) fun us s1 ⟨vs, H1, I1, rv, q1⟩ => ?_) hs hpl))
  obtain ⟨x, y, W1, m1, d1, d2, rfl, sm1, r1, r2, q⟩ := q1
  split at q
  · rename_i xs ys h1 h2
    obtain ⟨a, vs, e1, k1, k2⟩ := walked r1 (Ext.refl _ _).toZ sm1 h1
    obtain ⟨b, us', e2, k3, k4⟩ := walked r2 (Ext.refl _ _).toZ sm1 h2
    subst e1 e2
    cases rv with
    | cons r rr =>
    cases rr with
    | cons r' rr =>
    cases rr
    cases r
    cases r'
    obtain ⟨its, rv1, p1, l1, z1⟩ := sqK I1 k1
    obtain ⟨its2, rv2, p2, l2, z2⟩ := sqK I1 k3
    refine zip_begins2 (beginsK (kindD d1) a its.toArray) (beginsK (kindD d2) b its2.toArray) p1 p2 fun h' hz hTI hTO g1 g2 hsz hk => Calls.spliced_nil ?_
    have hh : X.A.in1.in1.in1.handled = none := I1.ok.hd hc
    have lt1 : a < s1.heap.objs.size := l1
    have lt2 : b < s1.heap.objs.size := l2
    have ne1 : a ≠ s1.heap.objs.size := Nat.ne_of_lt lt1
    have ne2 : b ≠ s1.heap.objs.size + 1 := Nat.ne_of_lt (Nat.lt_succ_of_lt lt2)
    have n1 : its.toArray.size = xs.length := by rw [List.size_toArray, ← rv1.length, k2.length]
    have n2 : its2.toArray.size = ys.length := by rw [List.size_toArray, ← rv2.length, k4.length]
    refine call_list_zip (s := { s1 with heap := h' }) (sep_new _ a b l1 l2) (drawsK (kindD d1) hh _ a ne1 its.toArray) (drawsK (kindD d2) hh _ b ne2 its2.toArray) ?_ hz hTI ⟨_, _, hTO⟩ ⟨itObj_is g1, ?_⟩ ⟨itObj_is g2, ?_⟩ ?_ ?_ fun h3 tk zend => ?_
    · rw [n1, n2, ← k2.length]; exact Nat.le_trans (Nat.min_le_left _ _) z1
    · exact p1.at hk
    · exact p2.at hk
    · intro c hcm
      show c < h'.objs.size
      rw [hsz]
      have : c = s1.heap.objs.size ∨ c = a := by simpa using hcm
      rcases this with z | z
      · rw [z]; exact Nat.lt_add_of_pos_right (by decide)
      · rw [z]; exact Nat.lt_of_lt_of_le lt1 (Nat.le_add_right _ _)
    · intro c hcm
      show c < h'.objs.size
      rw [hsz]
      have : c = s1.heap.objs.size + 1 ∨ c = b := by simpa using hcm
      rcases this with z | z
      · rw [z]; exact Nat.add_lt_add_left (by decide) _
      · rw [z]; exact Nat.lt_of_lt_of_le lt2 (Nat.le_add_right _ _)
    · obtain ⟨kp, Ts, c', hN, hlen, nd, hTs⟩ := zend
      have hN : h3.get? h'.objs.size = some { cls := .type "list", dict := none, data := .seq (Ts.map Value.ref).toArray c', slots := #[] } := hN
      rw [n1, n2] at hlen
      have big : ∀ T ∈ Ts, h'.objs.size < T := fun T hT => by
        obtain ⟨j, e⟩ := List.mem_iff_getElem?.mp hT
        exact (hTs j T e).1
      have sz5 : s1.heap.objs.size ≤ h'.objs.size := by rw [hsz]; exact Nat.le_add_right _ _
      obtain ⟨H3, x1, x2, x3, x4, x5⟩ := layAll (P := X.prog) (w := X.w) (h' := h3) xs ys vs us' its its2 Ts H1 sm1 k2 k4 rv1 rv2 hlen nd (fun T hT => I1.hok.fresh (Nat.le_trans sz5 (Nat.le_of_lt (big T hT)))) (fun j T e => by
        obtain ⟨_, y1, y2, o1, o2, o3⟩ := hTs j T e
        exact ⟨y1, y2, by simpa using o1, by simpa using o2, o3⟩)
      have nN : h'.objs.size ∉ Ts := fun hm => Nat.lt_irrefl _ (big _ hm)
      have fN : H3 h'.objs.size = none := by rw [x4 _ nN]; exact I1.hok.fresh sz5
      have old : ∀ c o, s1.heap.get? c = some o → h3.get? c = some o := fun c o e => by
        have lt : c < s1.heap.objs.size := Heap.lt_size e
        refine kp c o ?_ ?_ ?_ ?_ ?_ (hk c o e)
        · exact Nat.ne_of_lt (Nat.lt_of_lt_of_le lt (Nat.le_add_right _ _))
        · exact Nat.ne_of_lt (Nat.lt_of_lt_of_le lt (Nat.le_add_right _ _))
        · exact Nat.ne_of_lt lt
        · exact Nat.ne_of_lt (Nat.lt_of_lt_of_le lt (Nat.le_add_right _ _))
        · exact Nat.ne_of_lt (Nat.lt_of_lt_of_le lt sz5)
      have I3 : Inv X pins σ (upd H3 h'.objs.size (.lst (Ts.map V.ref))) { s1 with heap := h3, toks := tk } := by
        refine grown I1 old (fun c u e => ?_) (fun c lt e => ?_) fun c u e => ?_
        · have lt : c < s1.heap.objs.size := (I1.hok c u e).lt
          have ne : c ≠ h'.objs.size := Nat.ne_of_lt (Nat.lt_of_lt_of_le lt sz5)
          have nT : c ∉ Ts := fun hm => Nat.lt_irrefl _ (Nat.lt_trans (Nat.lt_of_lt_of_le lt sz5) (big _ hm))
          rw [upd_ne ne, x4 c nT]
          exact e
        · have ne : c ≠ h'.objs.size := Nat.ne_of_lt (Nat.lt_of_lt_of_le lt sz5)
          have nT : c ∉ Ts := fun hm => Nat.lt_irrefl _ (Nat.lt_trans (Nat.lt_of_lt_of_le lt sz5) (big _ hm))
          rw [upd_ne ne, x4 c nT]
          exact e
        · by_cases ne : c = h'.objs.size
          · subst ne
            rw [upd_same] at e
            cases e
            refine .inr ⟨?_, Ts.map Value.ref, c', ?_, hN⟩
            · rw [List.length_map, hlen, ← k2.length]; exact Nat.le_trans (Nat.min_le_left _ _) z1
            · exact valsRef Ts
          · rw [upd_ne ne] at e
            by_cases nT : c ∈ Ts
            · obtain ⟨u', e', ok⟩ := x5 c nT
              rw [e'] at e
              cases e
              exact .inr (ok _)
            · rw [x4 c nT] at e
              exact .inl e
      refine ⟨.ref h'.objs.size, _, I3, rfl, ?_⟩
      exact x2.newL fN x3 (Post.ext x1 q)
  · exact q.elim

instance (a b : Int) : Decidable (RgOk a b) := by unfold RgOk; infer_instance
end
end Mir

/-! Mir: x or y that gives the thing itself. -/
namespace Mir
open PySem PySem.Spec PyProof.Rows L2
end Mir

/-! Mir: reasoning over mirrors. -/
namespace Mir
open PySem PySem.Spec PyProof.Rows L2

@[simp] theorem gEq_bl (neg : Bool) (a b : Bool) (m : Mem) : gEq neg (.bl a) (.bl b) m = .ok (.bl (decide (a = b) ^^ neg)) m := by
  simp [gEq, flatD, scal]
@[simp] theorem gEq_str (neg : Bool) (a b : Str) (m : Mem) : gEq neg (.str a) (.str b) m = .ok (.bl (decide (a = b) ^^ neg)) m := by
  simp [gEq, flatD, scal]
@[simp] theorem gIx_lst0 (d : D) (l : List D) (m : Mem) : gIx (.lst (d :: l)) (.int 0) m = .ok d m := by
  simp [gIx, ixOf, lstOf, atI, ixN, oR]
@[simp] theorem gIx_tup0 (d : D) (l : List D) (m : Mem) : gIx (.tup (d :: l)) (.int 0) m = .ok d m := by
  simp [gIx, ixOf, atI, ixN, oR]
/-! ### what comes of a mirror -/
def Tri {α : Type} (r : R α) (P : α → Mem → Prop) : Prop := match r with
  | .ok a m => P a m
  | _ => False
@[simp] theorem tri_ok {α : Type} (a : α) (m : Mem) (P : α → Mem → Prop) : Tri (.ok a m) P = P a m := nr rfl
@[simp] theorem tri_stk {α : Type} (P : α → Mem → Prop) : Tri (.stk : R α) P = False := nr rfl
@[simp] theorem tri_exc {α : Type} (x : Exn) (m : Mem) (P : α → Mem → Prop) : Tri (.exc x m : R α) P = False := nr rfl
@[simp] theorem tri_bind {α β : Type} (r : R α) (f : α → Mem → R β) (P : β → Mem → Prop) : Tri (r.bind f) P = Tri r (fun a m => Tri (f a m) P) := by cases r <;> rfl
theorem Tri.mono {α : Type} {r : R α} {P Q : α → Mem → Prop} (h : Tri r P) (k : ∀ a m, P a m → Q a m) : Tri r Q := by
  cases r with
  | ok a m => exact k a m h
  | _ => exact h
theorem Tri.ex {α : Type} {r : R α} {P : α → Mem → Prop} (h : Tri r P) : ∃ a m, r = .ok a m ∧ P a m := by
  cases r with
  | ok a m => exact ⟨a, m, rfl, h⟩
  | _ => exact h.elim
@[simp] theorem tri_noX {α : Type} (r : R α) (P : α → Mem → Prop) : Tri (noX r) P = Tri r P := by cases r <;> rfl
@[simp] theorem tri_ite {α : Type} {c : Prop} [Decidable c] (a b : R α) (P : α → Mem → Prop) : Tri (if c then a else b) P = if c then Tri a P else Tri b P := by split <;> rfl
/-- of a statement: what follows, what is returned -/
def TriS (r : RS) (N : Env' → Mem → Prop) (Rt : D → Mem → Prop) : Prop := match r with
  | .nxt η m => N η m
  | .ret d m => Rt d m
  | _ => False
@[simp] theorem tris_nxt (η : Env') (m : Mem) (N : Env' → Mem → Prop) (Rt : D → Mem → Prop) : TriS (.nxt η m) N Rt = N η m := nr rfl
@[simp] theorem tris_ret (d : D) (m : Mem) (N : Env' → Mem → Prop) (Rt : D → Mem → Prop) : TriS (.ret d m) N Rt = Rt d m := nr rfl
@[simp] theorem tris_stk (N : Env' → Mem → Prop) (Rt : D → Mem → Prop) : TriS .stk N Rt = False := nr rfl
@[simp] theorem tris_exc (x : Exn) (m : Mem) (N : Env' → Mem → Prop) (Rt : D → Mem → Prop) : TriS (.exc x m) N Rt = False := nr rfl
@[simp] theorem tris_brk (η : Env') (m : Mem) (N : Env' → Mem → Prop) (Rt : D → Mem → Prop) : TriS (.brk η m) N Rt = False := nr rfl
@[simp] theorem tris_cnt (η : Env') (m : Mem) (N : Env' → Mem → Prop) (Rt : D → Mem → Prop) : TriS (.cnt η m) N Rt = False := nr rfl
@[simp] theorem tris_seq (r : RS) (f : SM) (N : Env' → Mem → Prop) (Rt : D → Mem → Prop) : TriS (r.seq f) N Rt = TriS r (fun η m => TriS (f η m) N Rt) Rt := by cases r <;> rfl
@[simp] theorem tris_toS {α : Type} (r : R α) (f : α → Mem → RS) (N : Env' → Mem → Prop) (Rt : D → Mem → Prop) : TriS (r.toS f) N Rt = Tri r (fun a m => TriS (f a m) N Rt) := by cases r <;> rfl
@[simp] theorem tris_ite {c : Prop} [Decidable c] (a b : RS) (N : Env' → Mem → Prop) (Rt : D → Mem → Prop) : TriS (if c then a else b) N Rt = if c then TriS a N Rt else TriS b N Rt := by split <;> rfl
theorem TriS.mono {r : RS} {N N' : Env' → Mem → Prop} {Rt Rt' : D → Mem → Prop} (h : TriS r N Rt) (k : ∀ η m, N η m → N' η m) (k' : ∀ d m, Rt d m → Rt' d m) : TriS r N' Rt' := by
  cases r with
  | nxt η m => exact k η m h
  | ret d m => exact k' d m h
  | _ => exact h
/-- of a loop's body: what follows, break, continue, what is returned -/
def TriQ (r : RS) (N B C : Env' → Mem → Prop) (Rt : D → Mem → Prop) : Prop := match r with
  | .nxt η m => N η m
  | .brk η m => B η m
  | .cnt η m => C η m
  | .ret d m => Rt d m
  | _ => False
section
variable (η : Env') (m : Mem) (N B C : Env' → Mem → Prop) (Rt : D → Mem → Prop)
@[simp] theorem triq_nxt : TriQ (.nxt η m) N B C Rt = N η m := nr rfl
@[simp] theorem triq_brk : TriQ (.brk η m) N B C Rt = B η m := nr rfl
@[simp] theorem triq_cnt : TriQ (.cnt η m) N B C Rt = C η m := nr rfl
@[simp] theorem triq_ret (d : D) : TriQ (.ret d m) N B C Rt = Rt d m := nr rfl
@[simp] theorem triq_stk : TriQ .stk N B C Rt = False := nr rfl
@[simp] theorem triq_exc (x : Exn) : TriQ (.exc x m) N B C Rt = False := nr rfl
@[simp] theorem triq_seq (r : RS) (f : SM) : TriQ (r.seq f) N B C Rt = TriQ r (fun η m => TriQ (f η m) N B C Rt) B C Rt := by cases r <;> rfl
@[simp] theorem triq_toS {α : Type} (r : R α) (f : α → Mem → RS) : TriQ (r.toS f) N B C Rt = Tri r (fun a m => TriQ (f a m) N B C Rt) := by cases r <;> rfl
@[simp] theorem triq_ite {c : Prop} [Decidable c] (a b : RS) : TriQ (if c then a else b) N B C Rt = if c then TriQ a N B C Rt else TriQ b N B C Rt := by split <;> rfl
end
theorem TriQ.mono {r : RS} {N N' B B' C C' : Env' → Mem → Prop} {Rt Rt' : D → Mem → Prop} (h : TriQ r N B C Rt) (k : ∀ η m, N η m → N' η m) (k2 : ∀ η m, B η m → B' η m) (k3 : ∀ η m, C η m → C' η m) (k' : ∀ d m, Rt d m → Rt' d m) : TriQ r N' B' C' Rt' := by
  cases r with
  | nxt η m => exact k η m h
  | brk η m => exact k2 η m h
  | cnt η m => exact k3 η m h
  | ret d m => exact k' d m h
  | _ => exact h
theorem tri_fn {n N : Nat} {body : SM} {ds : List D} {m : Mem} {P : D → Mem → Prop} (hl : ds.length = n) (h : TriS (body (ds.map some ++ List.replicate (N - n) none) m) (fun _ m => P .non m) P) : Tri (mFn n N body ds m) P := by
  unfold mFn
  rw [if_pos hl, hl]
  revert h
  generalize body (ds.map some ++ List.replicate (N - n) none) m = r
  intro h
  cases r <;> exact h

/-! ### the combinators, applied -/
section
variable (η : Env') (m : Mem) (a b c : EM) (g h : D → D → Mem → R D) (t u : TM) (al : Bool) (as bs : AM) (d : D) (s1 s2 : SM)
def varR (m : Mem) : Option (Option D) → R D
  | some (some d) => .ok d m
  | _ => .stk
@[simp] theorem ap_mVar (i : Nat) : mVar i η m = varR m η[i]? := by
  unfold mVar varR
  cases η[i]? with
  | none => rfl
  | some o => cases o <;> rfl
@[simp] theorem varR_ok : varR m (some (some d)) = .ok d m := nr rfl
@[simp] theorem ap_c : mC d η m = .ok d m := nr rfl
@[simp] theorem ap_op : mOp g a b η m = (a η m).bind fun x m1 => (b η m1).bind fun y m2 => g x y m2 := nr rfl
@[simp] theorem ap_un (g : D → Mem → R D) : mUn g a η m = (a η m).bind fun x m1 => g x m1 := nr rfl
@[simp] theorem ap_test : mTest a η m = (a η m).bind toB := nr rfl
@[simp] theorem toB_bl (k : Bool) : toB (.bl k) m = .ok k m := nr rfl
@[simp] theorem ap_and : mAnd t u η m = (t η m).bind fun x m1 => if x = true then u η m1 else .ok false m1 := nr rfl
@[simp] theorem ap_or : mOr t u η m = (t η m).bind fun x m1 => if x = true then .ok true m1 else u η m1 := nr rfl
@[simp] theorem ap_not : mNot t η m = (t η m).bind fun x m1 => .ok (!x) m1 := nr rfl
@[simp] theorem ap_andV : mAndV a b η m = (a η m).bind fun x m1 => (toB x m1).bind fun k m2 => if k = true then b η m2 else .ok (.bl false) m2 := nr rfl
@[simp] theorem ap_orV : mOrV a b η m = (a η m).bind fun x m1 => (toB x m1).bind fun k m2 => if k = true then .ok (.bl true) m2 else b η m2 := nr rfl
@[simp] theorem ap_notV : mNotV a η m = (a η m).bind fun x m1 => (toB x m1).bind fun k m2 => .ok (.bl (!k)) m2 := nr rfl
@[simp] theorem ap_if : mIf t a b η m = (t η m).bind fun k m1 => if k = true then a η m1 else b η m1 := nr rfl
@[simp] theorem ap_chain : mChain g h a b c η m = (a η m).bind fun x m1 => (b η m1).bind fun y m2 => (g x y m2).bind fun z m3 => (toB z m3).bind fun k m4 =>
  if k = true then (c η m4).bind fun w m5 => h y w m5 else .ok (.bl false) m4 := rfl
@[simp] theorem ap_nil : mNil η m = .ok [] m := nr rfl
@[simp] theorem ap_cons : mCons a as η m = (a η m).bind fun x m1 => (as η m1).bind fun xs m2 => .ok (x :: xs) m2 := nr rfl
@[simp] theorem ap_tup : mTup as η m = (as η m).bind fun xs m1 => if xs.length ≤ sizeLine then .ok (.tup xs) m1 else .stk := nr rfl
@[simp] theorem ap_lst : mLst al as η m = (as η m).bind fun xs m1 => if xs.length ≤ sizeLine then mkL al xs m1 else .stk := nr rfl
@[simp] theorem ap_cb (g : List D → Mem → R D) : mCB g as η m = (as η m).bind fun xs m1 => g xs m1 := nr rfl
@[simp] theorem ap_noPart : mNoPart η m = .ok none m := nr rfl
def partR : D → Mem → R (Option Int)
  | .int i, m => .ok (some i) m
  | _, _ => .stk
@[simp] theorem partR_int (i : Int) : partR (.int i) m = .ok (some i) m := nr rfl
@[simp] theorem ap_part : mPart a η m = (a η m).bind partR := by
  show (a η m).bind _ = _
  congr
  funext x m1
  cases x <;> rfl
def rng1R : D → Mem → R (Src × Nat)
  | .int j, m => if rngB j = true then .ok (srcLP (rngD 0 j.toNat)) m else .stk
  | _, _ => .stk
@[simp] theorem rng1R_int (j : Int) (h0 : -1000000 ≤ j) (h1 : j ≤ 1000000) : rng1R (.int j) m = .ok (srcLP (rngD 0 j.toNat)) m := by
  show (if rngB j = true then _ else _) = _
  rw [if_pos ((rngB_iff j).mpr (by omega))]
def rng2R : D → D → Mem → R (Src × Nat)
  | .int i, .int j, m => if (rngB i && rngB j) = true then .ok (srcLP (rngD i (j - i).toNat)) m else .stk
  | _, _, _ => .stk
@[simp] theorem rng2R_int (i j : Int) (h0 : -1000000 ≤ i) (h1 : i ≤ 1000000) (h2 : -1000000 ≤ j) (h3 : j ≤ 1000000) : rng2R (.int i) (.int j) m = .ok (srcLP (rngD i (j - i).toNat)) m := by
  show (if (rngB i && rngB j) = true then _ else _) = _
  rw [if_pos (by rw [(rngB_iff i).mpr (by omega), (rngB_iff j).mpr (by omega)]; rfl)]
@[simp] theorem gNeg_int (i : Int) : gNeg (.int i) m = .ok (.int (-i)) m := nr rfl
@[simp] theorem ap_sl (g : D → Option Int → Option Int → Mem → R D) (lo hi : OM) : mSl g a lo hi η m = (a η m).bind fun x m1 => (lo η m1).bind fun l m2 => (hi η m2).bind fun u m3 => g x l u m3 := nr rfl
def optR {α : Type} (m : Mem) : Option α → R α
  | some b => .ok b m
  | none => .stk
@[simp] theorem optR_some {α : Type} (b : α) : optR m (some b) = .ok b m := nr rfl
@[simp] theorem optR_none {α : Type} : optR m (none : Option α) = .stk := nr rfl
@[simp] theorem ap_tru : mTru a η m = (a η m).bind fun x m1 => optR m1 (truD m1 x) := by
  show (a η m).bind _ = _
  congr
  funext x m1
  cases truD m1 x <;> rfl
@[simp] theorem mkL_f (ds : List D) : mkL false ds m = .ok (.lst ds) m := nr rfl
@[simp] theorem mkL_t (ds : List D) : mkL true ds m = .ok (.ref m.length) (m ++ [.lst ds]) := nr rfl
@[simp] theorem ap_skip : mSkip η m = .nxt η m := nr rfl
@[simp] theorem ap_seq : mSeq s1 s2 η m = (s1 η m).seq s2 := nr rfl
@[simp] theorem ap_ret : mRet a η m = (a η m).toS fun d m1 => .ret d m1 := nr rfl
@[simp] theorem ap_drop : mDrop a η m = (a η m).toS fun _ m1 => .nxt η m1 := nr rfl
@[simp] theorem ap_ifS : mIfS t s1 s2 η m = (t η m).toS fun k m1 => if k = true then s1 η m1 else s2 η m1 := nr rfl
@[simp] theorem ap_asg (g : GM) : mAsg a g η m = (a η m).toS fun d m1 => (g d η m1).toS fun η' m2 => .nxt η' m2 := nr rfl
@[simp] theorem ap_gNm (i : Nat) : gNm i d η m = .ok (η.set i (some d)) m := nr rfl
@[simp] theorem ap_gsNil : gsNil [] η m = .ok η m := nr rfl
@[simp] theorem ap_gsCons (g : GM) (r : GsM) (ds : List D) : gsCons g r (d :: ds) η m = (g d η m).bind fun η1 m1 => r ds η1 m1 := nr rfl
@[simp] theorem ap_gTp (n : Nat) (g : GsM) (ds : List D) : gTp n g (.tup ds) η m = if ds.length = n then g ds η m else .stk := nr rfl
@[simp] theorem ap_gSub : gSubT a b d η m = (a η m).bind fun o m1 => (b η m1).bind fun i m2 => (gSet o i d m2).bind fun _ m3 => .ok η m3 := nr rfl
@[simp] theorem ap_call (fm : FM) : mCall fm as η m = (as η m).bind fun xs m1 => noX (fm xs m1) := nr rfl
@[simp] theorem ap_callK (n k : Nat) (ix : List Nat) (dd : List D) (fm : FM) : mCallK n k ix dd fm as bs η m = (as η m).bind fun xs m1 => (bs η m1).bind fun ys m2 => if xs.length = n ∧ ys.length = k then noX (fm (arr ix (xs ++ ys ++ dd)) m2) else .stk := nr rfl
@[simp] theorem ap_bm (T : String) (g : D → List D → Mem → R D) : mBM T g a as η m = (a η m).bind fun x m1 => if isTy T m1 x = true then (as η m1).bind fun xs m2 => g x xs m2 else .stk := nr rfl
@[simp] theorem ap_isi (T : String) : mIsi T a η m = (a η m).bind fun d m1 => optR m1 (((tyNm m1 d).bind fun t => kitB t T).map D.bl) := by
  show (a η m).bind _ = _
  congr
  funext x m1
  cases (tyNm m1 x).bind fun t => kitB t T <;> rfl
@[simp] theorem ap_it : mIt a η m = (a η m).bind fun d m1 => optR m1 (srcOf m1 d) := by
  show (a η m).bind _ = _
  congr
  funext x m1
  cases srcOf m1 x <;> rfl
@[simp] theorem ap_rng1 : mRng1 a η m = (a η m).bind rng1R := by
  show (a η m).bind _ = _
  congr
  funext x m1
  cases x <;> rfl
@[simp] theorem ap_rng2 : mRng2 a b η m = (a η m).bind fun x m1 => (b η m1).bind fun y m2 => rng2R x y m2 := by
  show (a η m).bind _ = _
  congr
  funext x m1
  congr
  funext y m2
  cases x <;> cases y <;> rfl
@[simp] theorem ap_yes : mYes η m = .ok true m := nr rfl
end

/-! ### loops over a list -/
def forD (g : GM) (body : SM) : List D → Env' → Mem → RS
  | [], η, m => .nxt η m
  | d :: ds, η, m => (g d η m).toS fun η1 m1 => match body η1 m1 with
    | .nxt η2 m2 => forD g body ds η2 m2
    | .cnt η2 m2 => forD g body ds η2 m2
    | .brk η2 m2 => .nxt η2 m2
    | r => r
theorem loop_forD (g : GM) (body : SM) (ds : List D) : ∀ (rest pre : List D) (η : Env') (m : Mem), ds = pre ++ rest → mLoop (srcL ds) g body rest.length pre.length η m = forD g body rest η m
  | [], pre, η, m, e => by
    have hd : ds[pre.length]? = none := by rw [e, List.append_nil]; exact List.getElem?_eq_none (Nat.le_refl _)
    show mLoop (srcL ds) g body 0 pre.length η m = _
    unfold mLoop forD
    simp only [srcL, hd]
  | d :: rest, pre, η, m, e => by
    have hd : ds[pre.length]? = some d := by rw [e, List.getElem?_append_right (Nat.le_refl _), Nat.sub_self]; rfl
    have ih := loop_forD g body ds rest (pre ++ [d])
    unfold forD
    rw [List.length_cons]
    unfold mLoop
    simp only [srcL, hd]
    cases g d η m with
    | ok η1 m1 =>
      simp only [toS_ok]
      cases body η1 m1 with
      | nxt η2 m2 =>
        have := ih η2 m2 (by rw [e]; simp)
        rw [List.length_append] at this
        exact this
      | cnt η2 m2 =>
        have := ih η2 m2 (by rw [e]; simp)
        rw [List.length_append] at this
        exact this
      | _ => rfl
    | _ => rfl
theorem ap_loop (g : GM) (body : SM) (ds : List D) (η : Env') (m : Mem) : mLoop (srcL ds) g body ds.length 0 η m = forD g body ds η m := loop_forD g body ds ds [] η m rfl
def compD (g : GM) (t : TM) (e : EM) (η : Env') : List D → Mem → List D → R (List D)
  | [], m, acc => .ok acc m
  | d :: ds, m, acc => (noX (g d η m)).bind fun η1 m1 => (noX (t η1 m1)).bind fun b m2 =>
      if b = true then (noX (e η1 m2)).bind fun y m3 => if acc.length < sizeLine then compD g t e η ds m3 (acc ++ [y]) else .stk
      else compD g t e η ds m2 acc
theorem lcl_compD (g : GM) (t : TM) (e : EM) (η : Env') (ds : List D) : ∀ (rest pre : List D) (m : Mem) (acc : List D), ds = pre ++ rest → mLcL (srcL ds) g t e η rest.length pre.length m acc = compD g t e η rest m acc
  | [], pre, m, acc, h => by
    have hd : ds[pre.length]? = none := by rw [h, List.append_nil]; exact List.getElem?_eq_none (Nat.le_refl _)
    show mLcL (srcL ds) g t e η 0 pre.length m acc = _
    unfold mLcL compD
    simp only [srcL, hd]
  | d :: rest, pre, m, acc, h => by
    have hd : ds[pre.length]? = some d := by rw [h, List.getElem?_append_right (Nat.le_refl _), Nat.sub_self]; rfl
    have ih := lcl_compD g t e η ds rest (pre ++ [d])
    unfold compD
    rw [List.length_cons]
    unfold mLcL
    simp only [srcL, hd]
    cases noX (g d η m) with
    | ok η1 m1 =>
      simp only [bind_ok]
      cases noX (t η1 m1) with
      | ok b m2 =>
        simp only [bind_ok]
        cases b with
        | false =>
          rw [if_neg Bool.false_ne_true, if_neg Bool.false_ne_true]
          have := ih m2 acc (by rw [h]; simp)
          rw [List.length_append] at this
          exact this
        | true =>
          rw [if_pos rfl, if_pos rfl]
          cases noX (e η1 m2) with
          | ok y m3 =>
            simp only [bind_ok]
            split
            · have := ih m3 (acc ++ [y]) (by rw [h]; simp)
              rw [List.length_append] at this
              exact this
            · rfl
          | _ => rfl
      | _ => rfl
    | _ => rfl
theorem ap_lcl (g : GM) (t : TM) (e : EM) (η : Env') (ds : List D) (m : Mem) (acc : List D) : mLcL (srcL ds) g t e η ds.length 0 m acc = compD g t e η ds m acc := lcl_compD g t e η ds ds [] m acc rfl
@[simp] theorem ap_lc (vs : List Nat) (al : Bool) (ci : IM) (g : GM) (t : TM) (e : EM) (η : Env') (m : Mem) : mLc vs al ci g t e η m = (ci η m).bind fun p m1 => (mLcL p.1 g t e (wipeE η vs) p.2 0 m1 []).bind fun acc m2 => mkL al acc m2 := nr rfl
@[simp] theorem ap_for (ci : IM) (g : GM) (body : SM) (η : Env') (m : Mem) : mFor ci g body η m = (ci η m).toS fun p m1 => mLoop p.1 g body p.2 0 η m1 := nr rfl
@[simp] theorem rngD_length (lo : Int) (n : Nat) : (rngD lo n).length = n := by unfold rngD; rw [List.length_map, List.length_range]
@[simp] theorem ap_lclP (g : GM) (t : TM) (e : EM) (η : Env') (ds : List D) (m : Mem) (acc : List D) : mLcL (srcLP ds).1 g t e η (srcLP ds).2 0 m acc = compD g t e η ds m acc := ap_lcl g t e η ds m acc
@[simp] theorem ap_loopP (g : GM) (body : SM) (ds : List D) (η : Env') (m : Mem) : mLoop (srcLP ds).1 g body (srcLP ds).2 0 η m = forD g body ds η m := ap_loop g body ds η m
@[simp] theorem srcOf_tup (m : Mem) (ds : List D) : srcOf m (.tup ds) = some (srcLP ds) := nr rfl
@[simp] theorem srcOf_lst (m : Mem) (ds : List D) : srcOf m (.lst ds) = some (srcLP ds) := nr rfl
@[simp] theorem srcOf_scr (m : Mem) (ds : List D) : srcOf m (.scr ds) = some (srcLP ds) := nr rfl
@[simp] theorem srcOf_str (m : Mem) (x : Str) : srcOf m (.str x) = some (srcLP (chD x)) := nr rfl
theorem chD_length (x : Str) : (chD x).length = x.length := by unfold chD; simp [Str.length]
theorem mem_chD {x : Str} {d : D} (h : d ∈ chD x) : ∃ c ∈ x.cps.toList, d = .str ⟨#[c]⟩ := by
  obtain ⟨c, h1, rfl⟩ := List.mem_map.mp h
  exact ⟨c, h1, rfl⟩
/-- the sign of a text of one sign -/
def sgn : D → Nat
  | .str y => y.cps.getD 0 0
  | _ => 0
theorem chD_map {α : Type} (x : Str) (f : Nat → α) : (chD x).map (fun d => f (sgn d)) = x.cps.toList.map f := by
  unfold chD
  rw [List.map_map]
  rfl
/-- a comprehension whose turns leave the memory -/
theorem comp_map {g : GM} {t : TM} {e : EM} {η : Env'} {m : Mem} (f : D → D) : ∀ (ds acc : List D), (∀ d ∈ ds, ∃ η1, g d η m = .ok η1 m ∧ t η1 m = .ok true m ∧ e η1 m = .ok (f d) m) → acc.length + ds.length ≤ sizeLine → compD g t e η ds m acc = .ok (acc ++ ds.map f) m
  | [], acc, _, _ => by simp [compD]
  | d :: ds, acc, h, hl => by
    obtain ⟨η1, h1, h2, h3⟩ := h d List.mem_cons_self
    have hlt : acc.length < sizeLine := by simp at hl; omega
    unfold compD
    simp only [h1, h2, h3, noX_ok, bind_ok, if_true, hlt]
    rw [comp_map f ds (acc ++ [f d]) (fun x hx => h x (List.mem_cons_of_mem _ hx)) (by simp at hl ⊢; omega)]
    simp
/-- a comprehension by an invariant of the memory and what is made -/
theorem comp_inv' {g : GM} {t : TM} {e : EM} {η : Env'} (I : Nat → Mem → List D → Prop) (n : Nat) : ∀ (ds : List D) (i : Nat) (m : Mem) (acc : List D), i + ds.length = n → I i m acc → (∀ j d m acc, d ∈ ds → j < n → I j m acc → Tri ((noX (g d η m)).bind fun η1 m1 => (noX (t η1 m1)).bind fun b m2 =>
      if b = true then (noX (e η1 m2)).bind fun y m3 => if acc.length < sizeLine then .ok (acc ++ [y]) m3 else .stk else .ok acc m2) (fun acc' m' => I (j + 1) m' acc')) → Tri (compD g t e η ds m acc) (fun acc' m' => I n m' acc')
  | [], i, m, acc, hn, h0, _ => by
    have : i = n := hn
    subst this
    exact h0
  | d :: ds, i, m, acc, hn, h0, h => by
    rw [List.length_cons] at hn
    have h1 := h i d m acc List.mem_cons_self (by omega) h0
    have ih := fun m2 acc q => comp_inv' I n ds (i + 1) m2 acc (by omega) q fun j d m acc hd => h j d m acc (List.mem_cons_of_mem _ hd)
    unfold compD
    rw [tri_bind] at h1 ⊢
    refine h1.mono fun η1 m1 h2 => ?_
    rw [tri_bind] at h2 ⊢
    refine h2.mono fun b m2 h3 => ?_
    cases b with
    | false => exact ih m2 acc h3
    | true =>
      rw [if_pos rfl] at h3 ⊢
      rw [tri_bind] at h3 ⊢
      refine h3.mono fun y m3 h4 => ?_
      split at h4
      · rename_i hlt
        rw [if_pos hlt]
        exact ih m3 _ h4
      · exact h4.elim
theorem comp_inv {g : GM} {t : TM} {e : EM} {η : Env'} {m : Mem} (I : Nat → Mem → List D → Prop) (ds : List D) (h0 : I 0 m []) (h : ∀ j d m acc, d ∈ ds → j < ds.length → I j m acc → Tri ((noX (g d η m)).bind fun η1 m1 => (noX (t η1 m1)).bind fun b m2 =>
      if b = true then (noX (e η1 m2)).bind fun y m3 => if acc.length < sizeLine then .ok (acc ++ [y]) m3 else .stk else .ok acc m2) (fun acc' m' => I (j + 1) m' acc')) : Tri (compD g t e η ds m []) (fun acc' m' => I ds.length m' acc') :=
  comp_inv' I ds.length ds 0 m [] (by omega) h0 h
/-- a loop by an invariant: I by the turn, B behind a break -/
theorem for_inv' {g : GM} {body : SM} (I : Nat → Env' → Mem → Prop) (B : Env' → Mem → Prop) (Rt : D → Mem → Prop) (n : Nat) : ∀ (ds : List D) (i : Nat) (η : Env') (m : Mem), i + ds.length = n → I i η m → (∀ j d η m, ds[j - i]? = some d → i ≤ j → j < n → I j η m → Tri (g d η m) (fun η1 m1 => TriQ (body η1 m1) (I (j + 1)) B (I (j + 1)) Rt)) → (∀ η m, I n η m → B η m) → TriS (forD g body ds η m) B Rt
  | [], i, η, m, hn, h0, _, hB => by
    have : i = n := hn
    subst this
    exact hB η m h0
  | d :: ds, i, η, m, hn, h0, h, hB => by
    rw [List.length_cons] at hn
    have h1 := h i d η m (by rw [Nat.sub_self]; rfl) (Nat.le_refl _) (by omega) h0
    have ih := fun η2 m2 q => for_inv' I B Rt n ds (i + 1) η2 m2 (by omega) q (fun j d η m hd hj => h j d η m (by
      rw [show j - i = (j - (i + 1)) + 1 by omega]
      exact hd) (by omega)) hB
    unfold forD
    cases hg : g d η m with
    | ok η1 m1 =>
      rw [hg] at h1
      simp only [tri_ok, toS_ok] at h1 ⊢
      cases hb : body η1 m1 with
      | nxt η2 m2 => rw [hb] at h1; exact ih η2 m2 h1
      | cnt η2 m2 => rw [hb] at h1; exact ih η2 m2 h1
      | brk η2 m2 => rw [hb] at h1; exact h1
      | ret d m2 => rw [hb] at h1; exact h1
      | exc x m2 => rw [hb] at h1; exact h1.elim
      | stk => rw [hb] at h1; exact h1.elim
    | exc x m1 => rw [hg] at h1; exact h1.elim
    | stk => rw [hg] at h1; exact h1.elim
theorem for_inv {g : GM} {body : SM} {η : Env'} {m : Mem} {B : Env' → Mem → Prop} {Rt : D → Mem → Prop} (I : Nat → Env' → Mem → Prop) (ds : List D) (h0 : I 0 η m) (h : ∀ j d η m, ds[j]? = some d → I j η m → Tri (g d η m) (fun η1 m1 => TriQ (body η1 m1) (I (j + 1)) B (I (j + 1)) Rt)) (hB : ∀ η m, I ds.length η m → B η m) : TriS (forD g body ds η m) B Rt :=
  for_inv' I B Rt ds.length ds 0 η m (by omega) h0 (fun j d η m hd _ _ => h j d η m (by simpa using hd)) hB

/-! ### the drawing of numbers -/
/-- what a flow's list holds -/
def FlowL (l : List D) : Prop := ∃ (ns : List Int) (p g x c : Int), l = [.lst (ns.map .int), .int p, .int g, .int x, .int c] ∧ 0 ≤ p ∧ 0 ≤ g ∧ 0 ≤ x ∧ x < 2147483647
def FlowAt (m : Mem) (i : Nat) : Prop := ∃ l, m[i]? = some (.lst l) ∧ FlowL l
/-- the flow alone has changed -/
def FlowTo (m m' : Mem) (i : Nat) : Prop := ∃ l, FlowL l ∧ m' = m.set i (.lst l)
theorem FlowAt.lt {m : Mem} {i : Nat} (h : FlowAt m i) : i < m.length := by
  obtain ⟨l, e, _⟩ := h
  exact (List.getElem?_eq_some_iff.mp e).1
theorem FlowTo.at {m m' : Mem} {i : Nat} (h : FlowTo m m' i) (hi : FlowAt m i) : FlowAt m' i := by
  obtain ⟨l, h1, rfl⟩ := h
  exact ⟨l, List.getElem?_set_self hi.lt, h1⟩
theorem FlowTo.trans {m m1 m2 : Mem} {i : Nat} (h : FlowTo m m1 i) (k : FlowTo m1 m2 i) : FlowTo m m2 i := by
  obtain ⟨l, h1, rfl⟩ := h
  obtain ⟨l2, h2, rfl⟩ := k
  exact ⟨l2, h2, by rw [List.set_set]⟩
theorem FlowAt.refl {m : Mem} {i : Nat} (h : FlowAt m i) : FlowTo m m i := by
  obtain ⟨l, e, hl⟩ := h
  refine ⟨l, hl, ?_⟩
  apply List.ext_getElem?
  intro j
  by_cases hj : i = j
  · subst hj
    rw [e, List.getElem?_set_self (List.getElem?_eq_some_iff.mp e).1]
  · rw [List.getElem?_set_ne hj]
theorem fmod_pos {a b : Int} (h : 0 < b) : a.fmod b = a % b := Int.fmod_eq_emod_of_nonneg a (Int.le_of_lt h)
theorem fdiv_pos {a b : Int} (h : 0 < b) : a.fdiv b = a / b := Int.fdiv_eq_ediv_of_nonneg a (Int.le_of_lt h)
end Mir

/-! Mir: the numbers drawn of a script. -/
namespace Mir
open PySem PySem.Spec PyProof.Rows L2
def pick2 : SM :=
    (mSeq (mIfS (mTest (mOp gGt (mOp gIx (mVar 0) (mC (.int 2))) (mC (.int 0)))) (mSeq (mAsg (mOp gMod (mOp gIx (mVar 0) (mC (.int 2))) (mVar 1)) (gNm 3))
    (mSeq (mAsg (mOp gFdiv (mOp gIx (mVar 0) (mC (.int 2))) (mVar 1)) (gSubT (mVar 0) (mC (.int 2))))
    (mRet (mVar 3)))) mSkip)
    (mSeq (mAsg (mOp (gAdd false) (mOp gIx (mVar 0) (mC (.int 4))) (mC (.int 1))) (gSubT (mVar 0) (mC (.int 4))))
    (mSeq (mAsg (mOp gMod (mOp (gAdd false) (mOp (gAdd false) (mOp gMulI (mOp gIx (mVar 0) (mC (.int 3))) (mC (.int 48271))) (mC (.int 12820163))) (mOp gIx (mVar 0) (mC (.int 4)))) (mC (.int 2147483647))) (gSubT (mVar 0) (mC (.int 3))))
    (mRet (mOp gMod (mOp gFdiv (mOp gMod (mOp gMulI (mOp (gAdd false) (mOp gMod (mOp gIx (mVar 0) (mC (.int 3))) (mC (.int 65521))) (mC (.int 1))) (mOp (gAdd false) (mOp gFdiv (mOp gIx (mVar 0) (mC (.int 3))) (mC (.int 65521))) (mC (.int 7919)))) (mC (.int 1000003))) (mC (.int 7))) (mVar 1))))))
def pick1 : SM :=
    (mIfS (mAnd (mTest (mOp (gEq false) (mOp gIx (mVar 0) (mC (.int 2))) (mC (.int 0)))) (mTest (mOp gLt (mOp gIx (mVar 0) (mC (.int 1))) (mCB bLen (mCons (mOp gIx (mVar 0) (mC (.int 0))) mNil))))) (mSeq (mAsg (mOp gIx (mOp gIx (mVar 0) (mC (.int 0))) (mOp gIx (mVar 0) (mC (.int 1)))) (gNm 2))
    (mSeq (mAsg (mOp (gAdd false) (mOp gIx (mVar 0) (mC (.int 1))) (mC (.int 1))) (gSubT (mVar 0) (mC (.int 1))))
    (mIfS (mTest (mOp gGe (mVar 2) (mOp gPow (mC (.int 10)) (mC (.int 18))))) (mAsg (mVar 2) (gSubT (mVar 0) (mC (.int 2)))) (mAsg (mOp gMod (mOp (gAdd false) (mOp (gAdd false) (mOp gMulI (mOp gIx (mVar 0) (mC (.int 3))) (mC (.int 40013))) (mOp gMod (mVar 2) (mC (.int 1000003)))) (mC (.int 1))) (mC (.int 2147483647))) (gSubT (mVar 0) (mC (.int 3))))))) mSkip)
def pickB : SM := mSeq pick1 pick2
theorem gIx_ref {m : Mem} {i : Nat} {l : List D} {k : Int} {d : D} (h : m[i]? = some (.lst l)) (hk : atI l k = some d) : gIx (.ref i) (.int k) m = .ok d m := by
  show oR m ((lstC m[i]?).bind fun ds => atI ds k) = _
  rw [h]
  show oR m (atI l k) = _
  rw [hk]
  rfl
theorem gSet_ref {m : Mem} {i : Nat} {l : List D} {k : Int} {j : Nat} {d : D} (h : m[i]? = some (.lst l)) (hk : ixN l.length k = some j) : gSet (.ref i) (.int k) d m = .ok () (m.set i (.lst (l.set j d))) := by
  show setL m i k d = _
  unfold setL
  rw [h]
  simp only [lstC, hk]
@[simp] theorem gEq_int (neg : Bool) (i j : Int) (m : Mem) : gEq neg (.int i) (.int j) m = .ok (.bl (decide (i = j) ^^ neg)) m := by
  simp [gEq, flatD, scal]
@[simp] theorem gCmp_int (f : Int → Int → Bool) (h : List Nat → List Nat → Bool) (i j : Int) (m : Mem) : gCmp f h (.int i) (.int j) m = .ok (.bl (f i j)) m := nr rfl
@[simp] theorem gSub_int (i j : Int) (m : Mem) : gSub (.int i) (.int j) m = .ok (.int (i - j)) m := nr rfl
theorem gMod_pos {i j : Int} {m : Mem} (h : 0 < j) : gMod (.int i) (.int j) m = .ok (.int (i % j)) m := by
  show (if j = 0 then R.stk else R.ok (D.int (i.fmod j)) m) = _
  rw [if_neg (by omega), fmod_pos h]
theorem gFdiv_pos {i j : Int} {m : Mem} (h : 0 < j) (hb : j.natAbs.log2 < 9000) : gFdiv (.int i) (.int j) m = .ok (.int (i / j)) m := by
  show (if divOk j then R.ok (D.int (i.fdiv j)) m else R.stk) = _
  rw [if_pos ⟨by omega, hb⟩, fdiv_pos h]
theorem gMul_r {i j : Int} {m : Mem} (h : j.natAbs < 2 ^ 64) : gMulI (.int i) (.int j) m = .ok (.int (i * j)) m := by
  show (if mulOk i j then R.ok (D.int (i * j)) m else R.stk) = _
  rw [if_pos (.inr (.inl h))]
theorem bLen_ok {m : Mem} {d : D} {n : Nat} (h : lenOf m d = some n) : bLen [d] m = .ok (.int n) m := by
  unfold bLen
  simp only [h]
theorem pow18 (m : Mem) : gPow (.int 10) (.int 18) m = .ok (.int 1000000000000000000) m := by
  show (if powOk 10 18 then R.ok (D.int ((10 : Int) ^ (18 : Int).toNat)) m else R.stk) = _
  rw [if_pos (by decide)]
  rfl
theorem pick_spec {m : Mem} {i : Nat} {n : Int} (hf : FlowAt m i) (hn : 0 < n) (hb : n.natAbs.log2 < 9000) : Tri (mFn 2 4 pickB [.ref i, .int n] m) (fun d m' => ∃ k : Int, d = .int k ∧ 0 ≤ k ∧ k < n ∧ FlowTo m m' i) := by
  have hlt := hf.lt
  obtain ⟨l, hm, ns, p, g, x, c, rfl, hp, hg, hx, hx2⟩ := hf
  refine tri_fn rfl ?_
  have ix0 : ∀ (a b c d e : D), atI [a, b, c, d, e] 0 = some a := fun _ _ _ _ _ => rfl
  have ix1 : ∀ (a b c d e : D), atI [a, b, c, d, e] 1 = some b := fun _ _ _ _ _ => rfl
  have ix2 : ∀ (a b c d e : D), atI [a, b, c, d, e] 2 = some c := fun _ _ _ _ _ => rfl
  have ix3 : ∀ (a b c d e : D), atI [a, b, c, d, e] 3 = some d := fun _ _ _ _ _ => rfl
  have ix4 : ∀ (a b c d e : D), atI [a, b, c, d, e] 4 = some e := fun _ _ _ _ _ => rfl
  have hs : ∀ l, (m.set i (.lst l))[i]? = some (.lst l) := fun l => List.getElem?_set_self hlt
  have se : ∀ (k : Int) (j : Nat) (a b c d e y : D), ixN 5 k = some j → gSet (.ref i) (.int k) y (m.set i (.lst [a, b, c, d, e])) = .ok () (m.set i (.lst ([a, b, c, d, e].set j y))) := fun k j a b c d e y h => by
    rw [gSet_ref (l := [a, b, c, d, e]) (hs _) (j := j) h, List.set_set]
  have s1 := fun a b c d e y => se 1 1 a b c d e y rfl
  have s2 := fun a b c d e y => se 2 2 a b c d e y rfl
  have s3 := fun a b c d e y => se 3 3 a b c d e y rfl
  have s4 := fun a b c d e y => se 4 4 a b c d e y rfl
  have md1 := fun i m => @gMod_pos i 2147483647 m (by decide)
  have md2 := fun i m => @gMod_pos i 65521 m (by decide)
  have md3 := fun i m => @gMod_pos i 1000003 m (by decide)
  have dv1 := fun i m => @gFdiv_pos i 65521 m (by decide) (by decide)
  have dv2 := fun i m => @gFdiv_pos i 7 m (by decide) (by decide)
  have ml1 := fun i m => @gMul_r i 48271 m (by decide)
  have ml2 := fun i m => @gMul_r i 40013 m (by decide)
  have mdn := fun i m => @gMod_pos i n m hn
  have dvn := fun i m => @gFdiv_pos i n m hn hb
  -- the second half, from any flow
  have part2 : ∀ (g x c p : Int) (e2 e3 : Option D), 0 ≤ p → 0 ≤ g → 0 ≤ x → x < 2147483647 → TriS (pick2 [some (.ref i), some (.int n), e2, e3] (m.set i (.lst [.lst (ns.map .int), .int p, .int g, .int x, .int c]))) (fun _ m' => False) (fun d m' => ∃ k : Int, d = .int k ∧ 0 ≤ k ∧ k < n ∧ FlowTo m m' i) := by
    intro g x c p e2 e3 hp hg hx hx2
    have hy0 : 0 ≤ (x * 48271 + 12820163 + (c + 1)) % 2147483647 := Int.emod_nonneg _ (by decide)
    have hy1 : (x * 48271 + 12820163 + (c + 1)) % 2147483647 < 2147483647 := Int.emod_lt_of_pos _ (by decide)
    have ml3 : ∀ i m, gMulI (.int i) (.int ((x * 48271 + 12820163 + (c + 1)) % 2147483647 / 65521 + 7919)) m = .ok (.int (i * ((x * 48271 + 12820163 + (c + 1)) % 2147483647 / 65521 + 7919))) m := fun i m => gMul_r (by omega)
    by_cases h0 : 0 < g
    · simp [pick2, gIx_ref (hs _) (ix2 _ _ _ _ _), h0, mdn, dvn, s2]
      exact ⟨Int.emod_nonneg _ (by omega), Int.emod_lt_of_pos _ hn, _, ⟨ns, p, g / n, x, c, rfl, hp, Int.ediv_nonneg hg (by omega), hx, hx2⟩, rfl⟩
    · simp [pick2, gIx_ref (hs _) (ix2 _ _ _ _ _), gIx_ref (hs _) (ix3 _ _ _ _ _), gIx_ref (hs _) (ix4 _ _ _ _ _), h0, mdn, s3, s4, md1, md2, md3, dv1, dv2, ml1, ml3]
      exact ⟨Int.emod_nonneg _ (by omega), Int.emod_lt_of_pos _ hn, _, ⟨ns, p, g, _, c + 1, rfl, hp, hg, hy0, hy1⟩, rfl⟩
  have m0 : m = m.set i (.lst [.lst (ns.map .int), .int p, .int g, .int x, .int c]) := by
    apply List.ext_getElem?
    intro j
    by_cases hj : i = j
    · subst hj
      rw [hm, hs]
    · rw [List.getElem?_set_ne hj]
  have fin : ∀ {N : Env' → Mem → Prop} {r : RS} {Q : D → Mem → Prop}, TriS r (fun _ _ => False) Q → TriS r N Q := fun h => h.mono (fun _ _ z => z.elim) (fun _ _ z => z)
  show TriS ((pick1 _ m).seq pick2) _ _
  rw [tris_seq]
  have len0 : lenOf m (.lst (ns.map D.int)) = some ns.length := by show some (ns.map D.int).length = _; rw [List.length_map]
  have bl := bLen_ok len0
  have t1 : ∀ y, gSet (.ref i) (.int 1) y m = .ok () (m.set i (.lst [.lst (ns.map .int), y, .int g, .int x, .int c])) := fun y => gSet_ref hm (j := 1) rfl
  have h0 := gIx_ref hm (ix0 _ _ _ _ _)
  have h1 := gIx_ref hm (ix1 _ _ _ _ _)
  have h2 := gIx_ref hm (ix2 _ _ _ _ _)
  by_cases hg0 : g = 0
  · subst hg0
    by_cases hpl : p < (ns.length : Int)
    · -- a cell is taken
      have hat : atI (ns.map D.int) p = some (.int (ns[p.toNat]'(by omega))) := by
        unfold atI ixN
        rw [List.length_map, if_pos hp, if_pos hpl]
        simp only [Option.bind_some, List.getElem?_map]
        rw [List.getElem?_eq_getElem (by omega)]
        rfl
      generalize ns[p.toNat]'(by omega) = cell at hat
      have hix : gIx (.lst (ns.map D.int)) (.int p) m = .ok (.int cell) m := by
        show oR m ((some (ns.map D.int)).bind fun ds => atI ds p) = _
        simp only [Option.bind_some, hat]
        rfl
      by_cases hc : (1000000000000000000 : Int) ≤ cell
      · simp [pick1, h0, h1, h2, bl, hpl, hix, t1, pow18, hc, s2]
        exact fin (part2 cell x c (p + 1) _ _ (by omega) (by omega) hx hx2)
      · simp [pick1, h0, h1, h2, bl, hpl, hix, t1, pow18, hc, gIx_ref (hs _) (ix3 _ _ _ _ _), ml2, md1, md3, s3]
        exact fin (part2 0 _ c (p + 1) _ _ (by omega) (by omega) (Int.emod_nonneg _ (by decide)) (Int.emod_lt_of_pos _ (by decide)))
    · simp [pick1, h0, h1, h2, bl, hpl]
      have q := part2 0 x c p none none hp (by omega) hx hx2
      rw [← m0] at q
      exact fin q
  · simp [pick1, h2, hg0]
    have q := part2 g x c p none none hp hg hx hx2
    rw [← m0] at q
    exact fin q
end Mir

/-! Mir: texts. -/
namespace Mir
open PySem PySem.Spec PyProof.Rows L2 PySem.NumText
theorem size_le {n : Nat} (h : n ≤ 1000000) : n ≤ sizeLine := Nat.le_trans h (by decide)
theorem size_lt {n : Nat} (h : n < 1000000) : n < sizeLine := Nat.lt_of_lt_of_le h (by decide)
theorem joinL_chars : ∀ cs : List Nat, TL.joinL [] (cs.map fun c => [c]) = cs
  | [] => rfl
  | [c] => rfl
  | c :: d :: r => by
    show [c] ++ ([] ++ TL.joinL [] ((d :: r).map fun c => [c])) = _
    rw [joinL_chars (d :: r)]; rfl
theorem join_chars (cs : List Nat) : (Txt.join (Str.ofString "") (cs.map fun c => (⟨#[c]⟩ : Str))) = ⟨cs.toArray⟩ := by
  have h := SX.join_S [] (cs.map fun c => [c])
  rw [joinL_chars] at h
  rw [List.map_map] at h
  exact h
theorem mapO_map {α β γ : Type} {f : β → Option γ} {g : α → β} {h : α → γ} (hf : ∀ x, f (g x) = some (h x)) : ∀ l : List α, mapO f (l.map g) = some (l.map h)
  | [] => rfl
  | x :: l => by
    rw [List.map_cons, List.map_cons]
    unfold mapO
    rw [hf x, mapO_map hf l]
theorem mapO_chars (cs : List Nat) : mapO Mir.strOf (cs.map fun c => D.str ⟨#[c]⟩) = some (cs.map fun c => (⟨#[c]⟩ : Str)) := mapO_map (f := Mir.strOf) (g := fun c => D.str ⟨#[c]⟩) (h := fun c => (⟨#[c]⟩ : Str)) (fun _ => rfl) cs
theorem mapO_bools (bs : List Bool) : mapO boolOf (bs.map .bl) = some bs := by
  have := mapO_map (f := boolOf) (g := D.bl) (h := id) (fun _ => rfl) bs
  rw [List.map_id] at this
  exact this
theorem sum_ones : ∀ cs : List Nat, (List.map (fun x => x.length) (cs.map fun c => (⟨#[c]⟩ : Str))).sum = cs.length
  | [] => rfl
  | c :: cs => by
    rw [List.map_cons, List.map_cons, List.sum_cons, sum_ones cs, List.length_cons]
    show 1 + cs.length = _
    omega
theorem gJoin_chars {m : Mem} {cs : List Nat} (h : cs.length ≤ 1000000) : gJoin (.str (Str.ofString "")) [.lst (cs.map fun c => D.str ⟨#[c]⟩)] m = .ok (.str ⟨cs.toArray⟩) m := by
  unfold gJoin
  simp only [seqOf, lstOf, Option.bind_some, mapO_chars]
  rw [if_pos, join_chars]
  rw [sum_ones, List.length_map]
  show cs.length + cs.length * 0 ≤ _
  omega
theorem gAdd_str {al : Bool} {x y : Str} {m : Mem} (h : x.length + y.length ≤ 1000000) : gAdd al (.str x) (.str y) m = .ok (.str (x ++ y)) m := by
  show (if x.length + y.length ≤ sizeLine then R.ok (D.str (x ++ y)) m else R.stk) = _
  rw [if_pos (size_le h)]
theorem gSl_str {al : Bool} {x : Str} {lo hi : Option Int} {m : Mem} (h : x.length ≤ 1000000) : gSl al (.str x) lo hi m = .ok (.str (cutS x lo hi)) m := by
  show (if x.length ≤ sizeLine then R.ok (D.str (cutS x lo hi)) m else R.stk) = _
  rw [if_pos (size_le h)]
theorem bLen_str {x : Str} {m : Mem} (h : x.length ≤ 1000000) : bLen [.str x] m = .ok (.int x.length) m := bLen_ok (show (if x.length ≤ sizeLine then some x.length else none) = _ by rw [if_pos (size_le h)])
@[simp] theorem bLen_lst (ds : List D) (m : Mem) : bLen [.lst ds] m = .ok (.int ds.length) m := nr rfl
@[simp] theorem bLen_tup (ds : List D) (m : Mem) : bLen [.tup ds] m = .ok (.int ds.length) m := nr rfl
theorem gIx_str {x : Str} {k : Int} {m : Mem} {c : Nat} (h : x.length ≤ 1000000) (hc : atI x.cps.toList k = some c) : gIx (.str x) (.int k) m = .ok (.str ⟨#[c]⟩) m := by
  show oR m (if x.length ≤ sizeLine then (atI x.cps.toList k).map fun c => D.str ⟨#[c]⟩ else none) = _
  rw [if_pos (size_le h), hc]
  rfl
theorem gIx_lst {l : List D} {k : Int} {m : Mem} {d : D} (hc : atI l k = some d) : gIx (.lst l) (.int k) m = .ok d m := by
  show oR m (atI l k) = _
  rw [hc]; rfl
theorem gIx_tup {l : List D} {k : Int} {m : Mem} {d : D} (hc : atI l k = some d) : gIx (.tup l) (.int k) m = .ok d m := by
  show oR m (atI l k) = _
  rw [hc]; rfl
theorem inV_strs {x : Str} : ∀ ys : List Str, inV (.str x) (ys.map V.str) = decide (x ∈ ys)
  | [] => by simp [inV]
  | y :: ys => by
    have ih := inV_strs (x := x) ys
    unfold inV at ih ⊢
    rw [List.map_cons, List.any_cons, ih]
    show ((y == x) || decide (x ∈ ys)) = _
    by_cases h : y = x
    · subst h; simp
    · simp [h, Ne.symm h]
theorem mapO_strs (ys : List Str) : mapO flatD (ys.map D.str) = some (ys.map V.str) := mapO_map (f := flatD) (g := D.str) (h := V.str) (fun _ => rfl) ys
theorem gIn_tstrs {x : Str} {ys : List Str} {neg : Bool} {m : Mem} : gIn neg (.str x) (.tup (ys.map .str)) m = .ok (.bl (decide (x ∈ ys) ^^ neg)) m := by
  show bR neg m (flatIn (.str x) (ys.map .str)) = _
  unfold flatIn
  simp only [flatD, mapO_strs, inV_strs]
  rfl
@[simp] theorem gIn_sign {c : Nat} {y : Str} {neg : Bool} {m : Mem} : gIn neg (.str ⟨#[c]⟩) (.str y) m = .ok (.bl (decide (c ∈ y.cps.toList) ^^ neg)) m := nr rfl
theorem cut_head (l : List Nat) : cutS (SX.S l) none (some 1) = SX.S (l.take 1) := by
  unfold cutS
  rw [SX.S_len]
  have h1 : HT.sIx l.length 0 none = 0 := rfl
  have h2 : HT.sIx l.length l.length (some 1) = min 1 l.length := HT.sIx_nat _ _ 1
  rw [h1, h2]
  cases l with
  | nil => rfl
  | cons c l => simp
theorem cut_tail (l : List Nat) : cutS (SX.S l) (some 1) none = SX.S l.tail := by
  rw [← List.drop_one]
  unfold cutS
  rw [SX.S_len]
  have h1 : HT.sIx l.length l.length none = l.length := rfl
  have h2 : HT.sIx l.length 0 (some 1) = min 1 l.length := HT.sIx_nat _ _ 1
  rw [h1, h2]
  cases l with
  | nil => rfl
  | cons c l => simp
@[simp] theorem S_eq {a b : List Nat} : ((SX.S a : Str) = SX.S b) = (a = b) := propext ⟨SX.S_inj, fun e => by rw [e]⟩
@[simp] theorem S_length (a : List Nat) : (SX.S a).length = a.length := SX.S_len a
theorem gIx_S0 (c : Nat) (l : List Nat) (m : Mem) (h : l.length < 1000000) : gIx (.str (SX.S (c :: l))) (.int 0) m = .ok (.str ⟨#[c]⟩) m := gIx_str (by rw [SX.S_len]; exact h) (by
  show atI (c :: l) 0 = some c
  unfold atI ixN
  simp)
theorem bInt_digits {l : List Nat} {m : Mem} (h : AllDigits l) (h1 : l ≠ []) (h2 : l.length ≤ 640) : bInt [.str (SX.S l)] m = .ok (.int (digitsVal l : Nat)) m := by
  unfold bInt
  have e : PySem.intText? (SX.S l) = some ((digitsVal l : Nat) : Int) := intText_digits (x := SX.S l) h h1 (by rw [SX.S_len]; omega)
  simp only [e]
  rw [if_pos (by rw [SX.S_len]; exact h2)]
@[simp] theorem bInt_bl (b : Bool) (m : Mem) : bInt [.bl b] m = .ok (.int (if b then 1 else 0)) m := nr rfl
@[simp] theorem truD_bl (m : Mem) (b : Bool) : truD m (.bl b) = some b := nr rfl
@[simp] theorem gIs_non (d : D) (neg : Bool) (m : Mem) : gIs neg d .non m = .ok (.bl (isNon d ^^ neg)) m := nr rfl
/-- a while by an invariant with a measure -/
theorem wh_inv {t : TM} {body : SM} {N : Env' → Mem → Prop} {Rt : D → Mem → Prop} (I : Nat → Env' → Mem → Prop) (h : ∀ n η m, I n η m → Tri (t η m) (fun b m1 => if b = true then TriS (body η m1) (fun η2 m2 => ∃ k, k < n ∧ I k η2 m2) Rt else N η m1)) : ∀ (f n : Nat) (η : Env') (m : Mem), n < f → I n η m → TriS (mWh t body f η m) N Rt
  | 0, n, η, m, hn, _ => by omega
  | f + 1, n, η, m, hn, hi => by
    have h1 := h n η m hi
    unfold mWh
    rw [tris_toS]
    refine h1.mono fun b m1 h2 => ?_
    cases b with
    | false => exact h2
    | true =>
      rw [if_pos rfl] at h2 ⊢
      cases hb : body η m1 with
      | nxt η2 m2 =>
        rw [hb] at h2
        obtain ⟨k, hk, hi2⟩ := h2
        exact wh_inv I h f k η2 m2 (by omega) hi2
      | ret d m2 => rw [hb] at h2; exact h2
      | cnt η2 m2 => rw [hb] at h2; exact h2.elim
      | brk η2 m2 => rw [hb] at h2; exact h2.elim
      | exc x m2 => rw [hb] at h2; exact h2.elim
      | stk => rw [hb] at h2; exact h2.elim
end Mir

/-! Mir: fractions are Lean's rational numbers. -/
namespace Mir.Fr
open PySem PySem.Spec PyProof.Rows L2 Mir
def b_common_s1 : SM := (mRet (mCB bAbs (mCons (mVar 0) mNil)))
def b_common : SM := mSeq (mWhile (mTest (mOp (gEq true) (mVar 1) (mC (.int 0)))) (mPar 0 1 (mCons (mVar 1) (mCons (mOp gMod (mVar 0) (mVar 1)) mNil)))) b_common_s1
def m_common : FM := mFn 2 2 b_common
def b_fraction_s2 : SM := (mRet (mTup (mCons (mOp gFdiv (mVar 0) (mVar 2)) (mCons (mOp gFdiv (mVar 1) (mVar 2)) mNil))))
def b_fraction_s1 : SM := mSeq (mIfS (mTest (mOp gLt (mVar 1) (mC (.int 0)))) (mAsg (mOp gSub (mC (.int 0)) (mVar 2)) (gNm 2)) mSkip) b_fraction_s2
def b_fraction : SM := mSeq (mAsg (mCall m_common (mCons (mVar 0) (mCons (mVar 1) mNil))) (gNm 2)) b_fraction_s1
def m_fraction : FM := mFn 2 3 b_fraction
theorem FUEL_big {n : Nat} (h : n < 2 ^ 9000) : n < FUEL := by
  unfold FUEL
  exact Nat.lt_of_lt_of_le h (Nat.le_of_ble_eq_true (by decide +kernel))
theorem fmod_small {a b : Int} (h : b ≠ 0) : (a.fmod b).natAbs < b.natAbs := by
  rcases Int.lt_or_gt_of_ne h with h | h
  · have e : a.fmod b = -((-a).fmod (-b)) := by
      rw [Int.fmod_def, Int.fmod_def, Int.neg_fdiv_neg]
      rw [Int.neg_mul]
      omega
    have h1 := Int.fmod_nonneg_of_pos (-a) (show 0 < -b by omega)
    have h2 := Int.fmod_lt_of_pos (-a) (show 0 < -b by omega)
    omega
  · have h1 := Int.fmod_nonneg_of_pos a h
    have h2 := Int.fmod_lt_of_pos a h
    omega
theorem fmod_gcd (a b : Int) : Int.gcd b (a.fmod b) = Int.gcd a b := by
  rw [Int.fmod_def, Int.gcd_sub_mul_left_right, Int.gcd_comm]
theorem wh_common (m : Mem) : ∀ (n : Nat) (a b : Int) (f : Nat), b.natAbs ≤ n → n < f → ∃ g : Int, g.natAbs = Int.gcd a b ∧ mWh (mTest (mOp (gEq true) (mVar 1) (mC (.int 0)))) (mPar 0 1 (mCons (mVar 1) (mCons (mOp gMod (mVar 0) (mVar 1)) mNil))) f [some (.int a), some (.int b)] m = .nxt [some (.int g), some (.int 0)] m := by
  intro n
  induction n with
  | zero =>
    intro a b f hb hf
    have hb0 : b = 0 := by omega
    subst hb0
    obtain ⟨f, rfl⟩ : ∃ k, f = k + 1 := ⟨f - 1, by omega⟩
    refine ⟨a, by simp, ?_⟩
    unfold mWh
    simp
  | succ n ih =>
    intro a b f hb hf
    obtain ⟨f, rfl⟩ : ∃ k, f = k + 1 := ⟨f - 1, by omega⟩
    by_cases hb0 : b = 0
    · subst hb0
      refine ⟨a, by simp, ?_⟩
      unfold mWh
      simp
    · have hs := fmod_small (a := a) hb0
      obtain ⟨g, hg, e⟩ := ih b (a.fmod b) f (by omega) (by omega)
      refine ⟨g, by rw [hg, fmod_gcd], ?_⟩
      unfold mWh
      have hmod : gMod (.int a) (.int b) m = .ok (.int (a.fmod b)) m := by
        show (if b = 0 then R.stk else R.ok (D.int (a.fmod b)) m) = _
        rw [if_neg hb0]
      simp [hb0, mPar, hmod]
      exact e
theorem common_eq {m : Mem} {a b : Int} (hb : b.natAbs < 2 ^ 8999) : m_common [.int a, .int b] m = .ok (.int (Int.gcd a b : Nat)) m := by
  obtain ⟨g, hg, e⟩ := wh_common m b.natAbs a b FUEL (Nat.le_refl _) (FUEL_big (Nat.lt_of_lt_of_le hb (Nat.pow_le_pow_right (by decide) (by decide))))
  have key : Tri (m_common [.int a, .int b] m) (fun d m' => d = .int (Int.gcd a b : Nat) ∧ m' = m) := by
    refine tri_fn rfl ?_
    simp [b_common, mWhile, e, b_common_s1, bAbs]
    omega
  obtain ⟨d, m', e, rfl, rfl⟩ := key.ex
  exact e
/-- a fraction -/
def qD (q : Rat) : D := .tup [.int q.num, .int (q.den : Nat)]
theorem log2_lt {n k : Nat} (h : n < 2 ^ k) (hk : 0 < k) : n.log2 < k := by
  by_cases hn : n = 0
  · subst hn
    simpa using hk
  · exact (Nat.log2_lt hn).mpr h
theorem gFdiv_bd {i j : Int} {m : Mem} (h0 : j ≠ 0) (hj : j.natAbs < 2 ^ 8999) : gFdiv (.int i) (.int j) m = .ok (.int (i.fdiv j)) m := by
  show (if divOk j then R.ok (D.int (i.fdiv j)) m else R.stk) = _
  rw [if_pos ⟨h0, Nat.lt_trans (log2_lt hj (by decide)) (by decide)⟩]
theorem fraction_eq {m : Mem} {a b : Int} (h0 : b ≠ 0) (hb : b.natAbs < 2 ^ 8999) : m_fraction [.int a, .int b] m = .ok (qD (Rat.divInt a b)) m := by
  have hgp : 0 < Int.gcd a b := Int.gcd_pos_of_ne_zero_right a h0
  have hgl : Int.gcd a b ≤ b.natAbs := Nat.le_of_dvd (by omega) (Int.gcd_dvd_natAbs_right a b)
  have hda : ((Int.gcd a b : Nat) : Int) ∣ a := Int.gcd_dvd_left ..
  have hdb : ((Int.gcd a b : Nat) : Int) ∣ b := Int.gcd_dvd_right ..
  have hnum := Rat.num_divInt a b
  have hden := Rat.den_divInt a b
  rw [if_neg h0] at hden
  rw [Int.gcd_comm] at hnum hden
  have key : Tri (m_fraction [.int a, .int b] m) (fun d m' => d = qD (Rat.divInt a b) ∧ m' = m) := by
    refine tri_fn rfl ?_
    simp [b_fraction, common_eq hb, b_fraction_s1]
    unfold qD
    rw [hnum, hden]
    generalize hgg : Int.gcd a b = g at *
    obtain ⟨u, rfl⟩ := hda
    obtain ⟨v, rfl⟩ := hdb
    have hg0 : (g : Int) ≠ 0 := by omega
    by_cases hneg : (g : Int) * v < 0
    · have hv : v < 0 := by
        by_cases h : v < 0
        · exact h
        · exact absurd (Int.mul_nonneg (show (0 : Int) ≤ g by omega) (show 0 ≤ v by omega)) (by omega)
      have hs : ((g : Int) * v).sign = -1 := Int.sign_eq_neg_one_of_neg hneg
      have d1 : ((g : Int) * u).fdiv (0 - g) = -u := by
        rw [show (g : Int) * u = (0 - g) * (-u) by rw [Int.zero_sub, Int.neg_mul_neg]]
        exact Int.mul_fdiv_cancel_left _ (by omega)
      have d2 : ((g : Int) * v).fdiv (0 - g) = -v := by
        rw [show (g : Int) * v = (0 - g) * (-v) by rw [Int.zero_sub, Int.neg_mul_neg]]
        exact Int.mul_fdiv_cancel_left _ (by omega)
      have hdv := fun i m => @gFdiv_bd i (0 - (g : Int)) m (by omega) (by omega)
      simp only [Int.zero_sub] at d1 d2 hdv
      simp [hneg, b_fraction_s2, hdv, d1, d2, hs]
      refine ⟨size_le (by decide), ?_, ?_⟩
      · rw [← Int.mul_neg, Int.mul_ediv_cancel_left _ hg0]
      · rw [Int.natAbs_mul, Int.natAbs_natCast, Int.natCast_mul, Int.mul_ediv_cancel_left _ hg0]
        omega
    · have hv : 0 ≤ v := by
        by_cases h : v < 0
        · exact absurd (Int.mul_neg_of_pos_of_neg (show (0 : Int) < g by omega) h) hneg
        · omega
      have hpos : 0 < (g : Int) * v := by omega
      have hs : ((g : Int) * v).sign = 1 := Int.sign_eq_one_of_pos hpos
      have d1 : ((g : Int) * u).fdiv g = u := Int.mul_fdiv_cancel_left _ hg0
      have d2 : ((g : Int) * v).fdiv g = v := Int.mul_fdiv_cancel_left _ hg0
      have hdv := fun i m => @gFdiv_bd i (g : Int) m (by omega) (by omega)
      simp [hneg, b_fraction_s2, hdv, d1, d2, hs]
      refine ⟨size_le (by decide), ?_, ?_⟩
      · rw [Int.mul_ediv_cancel_left _ hg0]
      · rw [Int.natAbs_mul, Int.natAbs_natCast, Int.natCast_mul, Int.mul_ediv_cancel_left _ hg0]
        omega
  obtain ⟨d, m', e, rfl, rfl⟩ := key.ex
  exact e
/-- of at most so many bits -/
def QB (k : Nat) (q : Rat) : Prop := q.num.natAbs < 2 ^ k ∧ q.den < 2 ^ k
theorem QB.mono {j k : Nat} {q : Rat} (h : QB j q) (hk : j ≤ k) : QB k q := ⟨Nat.lt_of_lt_of_le h.1 (Nat.pow_le_pow_right (by decide) hk), Nat.lt_of_lt_of_le h.2 (Nat.pow_le_pow_right (by decide) hk)⟩
theorem mul_bd {i j : Int} {a b : Nat} (hi : i.natAbs < 2 ^ a) (hj : j.natAbs < 2 ^ b) : (i * j).natAbs < 2 ^ (a + b) := wide_lt hi hj
theorem den_bd {q : Rat} {k : Nat} (h : q.den < 2 ^ k) : (q.den : Int).natAbs < 2 ^ k := by rw [Int.natAbs_natCast]; exact h
section
variable {m : Mem} {p q : Rat} {k : Nat}
theorem gIx_q0 (q : Rat) (m : Mem) : gIx (qD q) (.int 0) m = .ok (.int q.num) m := gIx_tup rfl
theorem gIx_q1 (q : Rat) (m : Mem) : gIx (qD q) (.int 1) m = .ok (.int (q.den : Nat)) m := gIx_tup rfl
variable (hp : QB k p) (hq : QB k q) (hk : 0 < k) (hk2 : k ≤ 4000)
theorem b2 (hp : QB k p) (hq : QB k q) : ((p.den : Int) * q.den).natAbs < 2 ^ (k + k) := mul_bd (den_bd hp.2) (den_bd hq.2)
end
end Mir.Fr

/-! Mir: more reasoning: loops over zip and enumerate, typed lists, the flow beside other cells. -/
namespace Mir
open PySem PySem.Spec PyProof.Rows L2
/-! ### small sizes -/
@[simp] theorem szl0 : (0 ≤ sizeLine) = True := eq_true (size_le (by decide))
@[simp] theorem szl1 : (1 ≤ sizeLine) = True := eq_true (size_le (by decide))
@[simp] theorem szl2 : (2 ≤ sizeLine) = True := eq_true (size_le (by decide))
@[simp] theorem szl3 : (3 ≤ sizeLine) = True := eq_true (size_le (by decide))
@[simp] theorem szl4 : (4 ≤ sizeLine) = True := eq_true (size_le (by decide))
@[simp] theorem szl5 : (5 ≤ sizeLine) = True := eq_true (size_le (by decide))
@[simp] theorem szl6 : (6 ≤ sizeLine) = True := eq_true (size_le (by decide))
@[simp] theorem szl7 : (7 ≤ sizeLine) = True := eq_true (size_le (by decide))
@[simp] theorem szl8 : (8 ≤ sizeLine) = True := eq_true (size_le (by decide))
@[simp] theorem szl9 : (9 ≤ sizeLine) = True := eq_true (size_le (by decide))
@[simp] theorem szl10 : (10 ≤ sizeLine) = True := eq_true (size_le (by decide))
@[simp] theorem szl11 : (11 ≤ sizeLine) = True := eq_true (size_le (by decide))
@[simp] theorem szl12 : (12 ≤ sizeLine) = True := eq_true (size_le (by decide))
@[simp] theorem szl13 : (13 ≤ sizeLine) = True := eq_true (size_le (by decide))
@[simp] theorem szl14 : (14 ≤ sizeLine) = True := eq_true (size_le (by decide))
@[simp] theorem szl15 : (15 ≤ sizeLine) = True := eq_true (size_le (by decide))
@[simp] theorem szl16 : (16 ≤ sizeLine) = True := eq_true (size_le (by decide))
@[simp] theorem szl17 : (17 ≤ sizeLine) = True := eq_true (size_le (by decide))
@[simp] theorem szl18 : (18 ≤ sizeLine) = True := eq_true (size_le (by decide))
@[simp] theorem szl19 : (19 ≤ sizeLine) = True := eq_true (size_le (by decide))
@[simp] theorem szl20 : (20 ≤ sizeLine) = True := eq_true (size_le (by decide))
@[simp] theorem isTy_lst (ds : List D) (m : Mem) : isTy "list" m (.lst ds) = true := nr rfl
@[simp] theorem isTy_tup (ds : List D) (m : Mem) : isTy "tuple" m (.tup ds) = true := nr rfl
@[simp] theorem isTy_str (x : Str) (m : Mem) : isTy "str" m (.str x) = true := nr rfl
theorem isTy_ref {m : Mem} {j : Nat} {l : List D} (h : m[j]? = some (.lst l)) : isTy "list" m (.ref j) = true := by
  show ("list" == "list" && (lstC m[j]?).isSome) = true
  rw [h]
  rfl
theorem len_ref {m : Mem} {j : Nat} {l : List D} (h : m[j]? = some (.lst l)) : bLen [.ref j] m = .ok (.int (l.length : Nat)) m := by
  have : lenOf m (.ref j) = some l.length := by
    unfold lenOf
    simp [seqOf, lstOf, h, lstC]
  exact bLen_ok this
theorem append_ref {m : Mem} {j : Nat} {l : List D} {d : D} (h : m[j]? = some (.lst l)) (hl : l.length < 1000000) : gAppend (.ref j) [d] m = .ok .non (m.set j (.lst (l ++ [d]))) := by
  unfold gAppend
  simp only [h, lstC, if_pos (size_lt hl)]
theorem tuple_ref {m : Mem} {j : Nat} {l : List D} (h : m[j]? = some (.lst l)) : bTuple [.ref j] m = .ok (.tup l) m := by
  unfold bTuple
  simp [seqOf, lstOf, h, lstC]
@[simp] theorem own_lst (ds : List D) (m : Mem) : lstOwn m (.lst ds) = some ds := nr rfl
theorem own_ref {m : Mem} {j : Nat} {l : List D} (h : m[j]? = some (.lst l)) : lstOwn m (.ref j) = some l := by
  show lstC m[j]? = _
  rw [h]
  rfl
theorem cat_own {m : Mem} {d e : D} {xs ys : List D} (h1 : lstOwn m d = some xs) (h2 : lstOwn m e = some ys) (hl : xs.length + ys.length ≤ 1000000) : gAdd false d e m = .ok (.lst (xs ++ ys)) m := by
  have e : gAdd false d e m = catL false m (lstOwn m d) (lstOwn m e) := by
    cases d with
    | lst _ => rfl
    | ref _ => rfl
    | _ => cases h1
  rw [e, h1, h2]
  show (if xs.length + ys.length ≤ sizeLine then mkL false (xs ++ ys) m else .stk) = _
  rw [if_pos (size_le hl)]
  rfl
@[simp] theorem gIx_tup1 (a0 a1 : D) (l : List D) (m : Mem) : gIx (.tup (a0 :: a1 :: l)) (.int 1) m = .ok a1 m := by
  have : atI (a0 :: a1 :: l) 1 = some a1 := by
    unfold atI ixN
    rw [if_pos (by decide), if_pos (by simp only [List.length_cons]; omega)]
    rfl
  exact gIx_tup this
@[simp] theorem gIx_tup2 (a0 a1 a2 : D) (l : List D) (m : Mem) : gIx (.tup (a0 :: a1 :: a2 :: l)) (.int 2) m = .ok a2 m := by
  have : atI (a0 :: a1 :: a2 :: l) 2 = some a2 := by
    unfold atI ixN
    rw [if_pos (by decide), if_pos (by simp only [List.length_cons]; omega)]
    rfl
  exact gIx_tup this
@[simp] theorem gIx_tup3 (a0 a1 a2 a3 : D) (l : List D) (m : Mem) : gIx (.tup (a0 :: a1 :: a2 :: a3 :: l)) (.int 3) m = .ok a3 m := by
  have : atI (a0 :: a1 :: a2 :: a3 :: l) 3 = some a3 := by
    unfold atI ixN
    rw [if_pos (by decide), if_pos (by simp only [List.length_cons]; omega)]
    rfl
  exact gIx_tup this
@[simp] theorem gIx_tup4 (a0 a1 a2 a3 a4 : D) (l : List D) (m : Mem) : gIx (.tup (a0 :: a1 :: a2 :: a3 :: a4 :: l)) (.int 4) m = .ok a4 m := by
  have : atI (a0 :: a1 :: a2 :: a3 :: a4 :: l) 4 = some a4 := by
    unfold atI ixN
    rw [if_pos (by decide), if_pos (by simp only [List.length_cons]; omega)]
    rfl
  exact gIx_tup this
@[simp] theorem gIx_tup5 (a0 a1 a2 a3 a4 a5 : D) (l : List D) (m : Mem) : gIx (.tup (a0 :: a1 :: a2 :: a3 :: a4 :: a5 :: l)) (.int 5) m = .ok a5 m := by
  have : atI (a0 :: a1 :: a2 :: a3 :: a4 :: a5 :: l) 5 = some a5 := by
    unfold atI ixN
    rw [if_pos (by decide), if_pos (by simp only [List.length_cons]; omega)]
    rfl
  exact gIx_tup this
@[simp] theorem gIx_lst1 (a0 a1 : D) (l : List D) (m : Mem) : gIx (.lst (a0 :: a1 :: l)) (.int 1) m = .ok a1 m := by
  have : atI (a0 :: a1 :: l) 1 = some a1 := by
    unfold atI ixN
    rw [if_pos (by decide), if_pos (by simp only [List.length_cons]; omega)]
    rfl
  exact gIx_lst this
@[simp] theorem gIx_lst2 (a0 a1 a2 : D) (l : List D) (m : Mem) : gIx (.lst (a0 :: a1 :: a2 :: l)) (.int 2) m = .ok a2 m := by
  have : atI (a0 :: a1 :: a2 :: l) 2 = some a2 := by
    unfold atI ixN
    rw [if_pos (by decide), if_pos (by simp only [List.length_cons]; omega)]
    rfl
  exact gIx_lst this
@[simp] theorem gIx_lst3 (a0 a1 a2 a3 : D) (l : List D) (m : Mem) : gIx (.lst (a0 :: a1 :: a2 :: a3 :: l)) (.int 3) m = .ok a3 m := by
  have : atI (a0 :: a1 :: a2 :: a3 :: l) 3 = some a3 := by
    unfold atI ixN
    rw [if_pos (by decide), if_pos (by simp only [List.length_cons]; omega)]
    rfl
  exact gIx_lst this
@[simp] theorem gIx_lst4 (a0 a1 a2 a3 a4 : D) (l : List D) (m : Mem) : gIx (.lst (a0 :: a1 :: a2 :: a3 :: a4 :: l)) (.int 4) m = .ok a4 m := by
  have : atI (a0 :: a1 :: a2 :: a3 :: a4 :: l) 4 = some a4 := by
    unfold atI ixN
    rw [if_pos (by decide), if_pos (by simp only [List.length_cons]; omega)]
    rfl
  exact gIx_lst this
@[simp] theorem gIx_lst5 (a0 a1 a2 a3 a4 a5 : D) (l : List D) (m : Mem) : gIx (.lst (a0 :: a1 :: a2 :: a3 :: a4 :: a5 :: l)) (.int 5) m = .ok a5 m := by
  have : atI (a0 :: a1 :: a2 :: a3 :: a4 :: a5 :: l) 5 = some a5 := by
    unfold atI ixN
    rw [if_pos (by decide), if_pos (by simp only [List.length_cons]; omega)]
    rfl
  exact gIx_lst this
@[simp] theorem bMax_int (i j : Int) (m : Mem) : bMax [.int i, .int j] m = .ok (.int (if j > i then j else i)) m := nr rfl
@[simp] theorem bTuple_lst (ds : List D) (m : Mem) : bTuple [.lst ds] m = .ok (.tup ds) m := nr rfl
@[simp] theorem bTuple_tup (ds : List D) (m : Mem) : bTuple [.tup ds] m = .ok (.tup ds) m := nr rfl
@[simp] theorem bList_lst (ds : List D) (m : Mem) : bList false [.lst ds] m = .ok (.lst ds) m := nr rfl
@[simp] theorem bList_tup (ds : List D) (m : Mem) : bList false [.tup ds] m = .ok (.lst ds) m := nr rfl
@[simp] theorem bListT_lst (ds : List D) (m : Mem) : bList true [.lst ds] m = .ok (.ref m.length) (m ++ [.lst ds]) := nr rfl
@[simp] theorem bListT_tup (ds : List D) (m : Mem) : bList true [.tup ds] m = .ok (.ref m.length) (m ++ [.lst ds]) := nr rfl
theorem bAll_bls {f : List Bool → Bool} {bs : List Bool} {m : Mem} : bAll f [.lst (bs.map .bl)] m = .ok (.bl (f bs)) m := by
  unfold bAll
  simp only [lstOf, Option.bind_some, mapO_bools]
/-! ### the flow beside other cells -/
def Flo (m m' : Mem) (i : Nat) : Prop := FlowAt m' i ∧ m.length ≤ m'.length ∧ ∀ j, j ≠ i → j < m.length → m'[j]? = m[j]?
theorem Flo.refl {m : Mem} {i : Nat} (h : FlowAt m i) : Flo m m i := ⟨h, Nat.le_refl _, fun _ _ _ => rfl⟩
theorem Flo.at {m m' : Mem} {i : Nat} (h : Flo m m' i) : FlowAt m' i := h.1
theorem Flo.trans {m m1 m2 : Mem} {i : Nat} (h : Flo m m1 i) (k : Flo m1 m2 i) : Flo m m2 i :=
  ⟨k.1, Nat.le_trans h.2.1 k.2.1, fun j hj hl => (k.2.2 j hj (Nat.lt_of_lt_of_le hl h.2.1)).trans (h.2.2 j hj hl)⟩
theorem FlowTo.flo {m m' : Mem} {i : Nat} (h : FlowTo m m' i) (hi : FlowAt m i) : Flo m m' i := by
  refine ⟨h.at hi, ?_, fun j hj hl => ?_⟩
  · obtain ⟨l, _, rfl⟩ := h
    rw [List.length_set]
    exact Nat.le_refl _
  · obtain ⟨l, _, rfl⟩ := h
    exact List.getElem?_set_ne (Ne.symm hj)
theorem Flo.get {m m' : Mem} {i j : Nat} {c : Cell} (h : Flo m m' i) (hj : j ≠ i) (hc : m[j]? = some c) : m'[j]? = some c := by
  rw [h.2.2 j hj (List.getElem?_eq_some_iff.mp hc).1]
  exact hc
/-- a new cell -/
theorem Flo.push {m m' : Mem} {i : Nat} (h : Flo m m' i) (c : Cell) : Flo m (m' ++ [c]) i := by
  refine ⟨?_, by rw [List.length_append]; exact Nat.le_trans h.2.1 (Nat.le_add_right _ _), fun j hj hl => ?_⟩
  · obtain ⟨l, e, hl⟩ := h.1
    exact ⟨l, by rw [List.getElem?_append_left (List.getElem?_eq_some_iff.mp e).1]; exact e, hl⟩
  · rw [List.getElem?_append_left (Nat.lt_of_lt_of_le hl h.2.1)]
    exact h.2.2 j hj hl
/-- a cell beyond is changed -/
theorem Flo.put {m m' : Mem} {i j : Nat} (h : Flo m m' i) (hj : m.length ≤ j) (hi : j ≠ i) (c : Cell) : Flo m (m'.set j c) i := by
  refine ⟨?_, by rw [List.length_set]; exact h.2.1, fun k hk hl => ?_⟩
  · obtain ⟨l, e, hl⟩ := h.1
    exact ⟨l, by rw [List.getElem?_set_ne hi]; exact e, hl⟩
  · rw [List.getElem?_set_ne (by omega)]
    exact h.2.2 k hk hl
theorem log_small {n : Int} (h : n.natAbs < 2 ^ 64) : n.natAbs.log2 < 9000 := by
  by_cases h0 : n.natAbs = 0
  · rw [h0]; decide
  · exact Nat.lt_of_lt_of_le ((Nat.log2_lt h0).mpr h) (by decide)
theorem pick_flo {m : Mem} {i : Nat} {n : Int} (hf : FlowAt m i) (hn : 0 < n) (hb : n < 2 ^ 64) : Tri (mFn 2 4 pickB [.ref i, .int n] m) (fun d m' => ∃ k : Nat, d = .int (k : Nat) ∧ (k : Int) < n ∧ Flo m m' i) :=
  (pick_spec hf hn (log_small (by omega))).mono fun d m' ⟨k, e, h0, h1, h2⟩ => ⟨k.toNat, by rw [e, Int.toNat_of_nonneg h0], by rw [Int.toNat_of_nonneg h0]; exact h1, h2.flo hf⟩

/-! ### sources that hold still -/
theorem loop_pure {src : Src} {g : GM} {body : SM} {ds : List D} (h : ∀ k m, k ≤ ds.length → src k m = some ds[k]?) : ∀ (n k : Nat) (η : Env') (m : Mem), n + k = ds.length → mLoop src g body n k η m = mLoop (srcL ds) g body n k η m
  | 0, k, η, m, e => by
    unfold mLoop
    rw [h k m (by omega)]
    rfl
  | n + 1, k, η, m, e => by
    unfold mLoop
    have hL : srcL ds k m = some ds[k]? := rfl
    rw [h k m (by omega), hL]
    cases hd : ds[k]? with
    | none => rfl
    | some d =>
      simp only
      cases g d η m with
      | ok η1 m1 =>
        simp only [toS_ok]
        cases body η1 m1 with
        | nxt η2 m2 => exact loop_pure h n (k + 1) η2 m2 (by omega)
        | cnt η2 m2 => exact loop_pure h n (k + 1) η2 m2 (by omega)
        | _ => rfl
      | _ => rfl
theorem loop_for {src : Src} {g : GM} {body : SM} {ds : List D} {n : Nat} {η : Env'} {m : Mem} (hn : n = ds.length) (h : ∀ k m, k ≤ ds.length → src k m = some ds[k]?) : mLoop src g body n 0 η m = forD g body ds η m := by
  subst hn
  rw [loop_pure h _ 0 η m rfl]
  exact ap_loop g body ds η m
theorem lcl_pure {src : Src} {g : GM} {t : TM} {e : EM} {η : Env'} {ds : List D} (h : ∀ k m, k ≤ ds.length → src k m = some ds[k]?) : ∀ (n k : Nat) (m : Mem) (acc : List D), n + k = ds.length → mLcL src g t e η n k m acc = mLcL (srcL ds) g t e η n k m acc
  | 0, k, m, acc, e => by
    unfold mLcL
    rw [h k m (by omega)]
    rfl
  | n + 1, k, m, acc, e => by
    unfold mLcL
    have hL : srcL ds k m = some ds[k]? := rfl
    rw [h k m (by omega), hL]
    cases hd : ds[k]? with
    | none => rfl
    | some d =>
      simp only
      congr
      funext η1 m1
      congr
      funext b m2
      split
      · congr
        funext y m3
        split
        · exact lcl_pure h n (k + 1) m3 _ (by omega)
        · rfl
      · exact lcl_pure h n (k + 1) m2 _ (by omega)
theorem lcl_comp {src : Src} {g : GM} {t : TM} {e : EM} {η : Env'} {ds : List D} {n : Nat} {m : Mem} {acc : List D} (hn : n = ds.length) (h : ∀ k m, k ≤ ds.length → src k m = some ds[k]?) : mLcL src g t e η n 0 m acc = compD g t e η ds m acc := by
  subst hn
  rw [lcl_pure h _ 0 m acc rfl]
  exact ap_lcl g t e η ds m acc
def zipD (xs ys : List D) : List D := List.zipWith (fun x y => D.tup [x, y]) xs ys
def enumD (c : Int) (xs : List D) : List D := xs.zipIdx.map fun p => D.tup [.int (c + (p.2 : Nat)), p.1]
theorem zipD_length (xs ys : List D) : (zipD xs ys).length = min xs.length ys.length := by unfold zipD; simp
theorem enumD_length (c : Int) (xs : List D) : (enumD c xs).length = xs.length := by unfold enumD; simp
theorem srcZ_pure {f g : Mem → Option (List D)} {xs ys : List D} (hf : ∀ m, f m = some xs) (hg : ∀ m, g m = some ys) (k : Nat) (m : Mem) (hk : k ≤ (zipD xs ys).length) : srcZ f g k m = some (zipD xs ys)[k]? := by
  unfold srcZ
  rw [hf, hg]
  simp only
  rw [zipD_length] at hk
  unfold zipD
  rw [List.getElem?_zipWith]
  cases hx : xs[k]? with
  | none =>
    have := List.getElem?_eq_none_iff.mp hx
    simp
    omega
  | some x =>
    cases hy : ys[k]? with
    | none =>
      have := List.getElem?_eq_none_iff.mp hy
      simp
      omega
    | some y => rfl
theorem srcE_pure {c : Int} {f : Mem → Option (List D)} {xs : List D} (hf : ∀ m, f m = some xs) (k : Nat) (m : Mem) (hk : k ≤ (enumD c xs).length) : srcE c f k m = some (enumD c xs)[k]? := by
  unfold srcE
  rw [hf]
  simp only
  rw [enumD_length] at hk
  unfold enumD
  rw [List.getElem?_map, List.getElem?_zipIdx]
  cases hx : xs[k]? with
  | none =>
    have := List.getElem?_eq_none_iff.mp hx
    simp
    omega
  | some x => simp
section
variable (η : Env') (m : Mem) (a b : EM) (g : GM) (body : SM) (t : TM) (e : EM) (xs ys acc : List D) (c : Int)
def zipR (x y : D) (m : Mem) : R (Src × Nat) := match rdS1 x m, rdS1 y m with
  | some xs, some ys => .ok (srcZ (rdS1 x) (rdS1 y), min xs.length ys.length) m
  | _, _ => .stk
def enumR (c : Int) (x : D) (m : Mem) : R (Src × Nat) := match rdS1 x m with
  | some xs => .ok (srcE c (rdS1 x), xs.length) m
  | none => .stk
@[simp] theorem ap_zip : mZip a b η m = (a η m).bind fun x m1 => (b η m1).bind fun y m2 => zipR x y m2 := rfl
@[simp] theorem ap_enum : mEnum c a η m = (a η m).bind fun x m1 => enumR c x m1 := rfl
@[simp] theorem zipR_tt : zipR (.tup xs) (.tup ys) m = .ok (srcZ (rdS1 (.tup xs)) (rdS1 (.tup ys)), min xs.length ys.length) m := rfl
@[simp] theorem zipR_tl : zipR (.tup xs) (.lst ys) m = .ok (srcZ (rdS1 (.tup xs)) (rdS1 (.lst ys)), min xs.length ys.length) m := rfl
@[simp] theorem zipR_lt : zipR (.lst xs) (.tup ys) m = .ok (srcZ (rdS1 (.lst xs)) (rdS1 (.tup ys)), min xs.length ys.length) m := rfl
@[simp] theorem zipR_ll : zipR (.lst xs) (.lst ys) m = .ok (srcZ (rdS1 (.lst xs)) (rdS1 (.lst ys)), min xs.length ys.length) m := rfl
@[simp] theorem enumR_t : enumR c (.tup xs) m = .ok (srcE c (rdS1 (.tup xs)), xs.length) m := rfl
@[simp] theorem enumR_l : enumR c (.lst xs) m = .ok (srcE c (rdS1 (.lst xs)), xs.length) m := rfl
@[simp] theorem loopZ_tt : mLoop (srcZ (rdS1 (.tup xs)) (rdS1 (.tup ys))) g body (min xs.length ys.length) 0 η m = forD g body (zipD xs ys) η m := loop_for (zipD_length xs ys).symm (srcZ_pure (fun _ => rfl) (fun _ => rfl))
@[simp] theorem loopZ_tl : mLoop (srcZ (rdS1 (.tup xs)) (rdS1 (.lst ys))) g body (min xs.length ys.length) 0 η m = forD g body (zipD xs ys) η m := loop_for (zipD_length xs ys).symm (srcZ_pure (fun _ => rfl) (fun _ => rfl))
@[simp] theorem loopZ_lt : mLoop (srcZ (rdS1 (.lst xs)) (rdS1 (.tup ys))) g body (min xs.length ys.length) 0 η m = forD g body (zipD xs ys) η m := loop_for (zipD_length xs ys).symm (srcZ_pure (fun _ => rfl) (fun _ => rfl))
@[simp] theorem loopZ_ll : mLoop (srcZ (rdS1 (.lst xs)) (rdS1 (.lst ys))) g body (min xs.length ys.length) 0 η m = forD g body (zipD xs ys) η m := loop_for (zipD_length xs ys).symm (srcZ_pure (fun _ => rfl) (fun _ => rfl))
@[simp] theorem lclZ_tt : mLcL (srcZ (rdS1 (.tup xs)) (rdS1 (.tup ys))) g t e η (min xs.length ys.length) 0 m acc = compD g t e η (zipD xs ys) m acc := lcl_comp (zipD_length xs ys).symm (srcZ_pure (fun _ => rfl) (fun _ => rfl))
@[simp] theorem lclZ_tl : mLcL (srcZ (rdS1 (.tup xs)) (rdS1 (.lst ys))) g t e η (min xs.length ys.length) 0 m acc = compD g t e η (zipD xs ys) m acc := lcl_comp (zipD_length xs ys).symm (srcZ_pure (fun _ => rfl) (fun _ => rfl))
@[simp] theorem lclZ_lt : mLcL (srcZ (rdS1 (.lst xs)) (rdS1 (.tup ys))) g t e η (min xs.length ys.length) 0 m acc = compD g t e η (zipD xs ys) m acc := lcl_comp (zipD_length xs ys).symm (srcZ_pure (fun _ => rfl) (fun _ => rfl))
@[simp] theorem lclZ_ll : mLcL (srcZ (rdS1 (.lst xs)) (rdS1 (.lst ys))) g t e η (min xs.length ys.length) 0 m acc = compD g t e η (zipD xs ys) m acc := lcl_comp (zipD_length xs ys).symm (srcZ_pure (fun _ => rfl) (fun _ => rfl))
@[simp] theorem loopE_t : mLoop (srcE c (rdS1 (.tup xs))) g body xs.length 0 η m = forD g body (enumD c xs) η m := loop_for (enumD_length c xs).symm (srcE_pure (fun _ => rfl))
@[simp] theorem loopE_l : mLoop (srcE c (rdS1 (.lst xs))) g body xs.length 0 η m = forD g body (enumD c xs) η m := loop_for (enumD_length c xs).symm (srcE_pure (fun _ => rfl))
@[simp] theorem lclE_t : mLcL (srcE c (rdS1 (.tup xs))) g t e η xs.length 0 m acc = compD g t e η (enumD c xs) m acc := lcl_comp (enumD_length c xs).symm (srcE_pure (fun _ => rfl))
@[simp] theorem lclE_l : mLcL (srcE c (rdS1 (.lst xs))) g t e η xs.length 0 m acc = compD g t e η (enumD c xs) m acc := lcl_comp (enumD_length c xs).symm (srcE_pure (fun _ => rfl))
end
theorem enumD_map {α : Type} (c : Int) (f : α → D) (xs : List α) : enumD c (xs.map f) = xs.zipIdx.map fun p => D.tup [.int (c + (p.2 : Nat)), f p.1] := by
  unfold enumD
  rw [List.zipIdx_map, List.map_map]
  rfl

/-! ### comprehensions over typed lists -/
theorem comp_mapT {α : Type} {g : GM} {t : TM} {e : EM} {η : Env'} {m : Mem} (emb f : α → D) : ∀ (xs : List α) (acc : List D), (∀ x ∈ xs, ∃ η1, g (emb x) η m = .ok η1 m ∧ t η1 m = .ok true m ∧ e η1 m = .ok (f x) m) → acc.length + xs.length ≤ 1000000 → compD g t e η (xs.map emb) m acc = .ok (acc ++ xs.map f) m
  | [], acc, _, _ => by simp [compD]
  | x :: xs, acc, h, hl => by
    obtain ⟨η1, h1, h2, h3⟩ := h x List.mem_cons_self
    have hlt : acc.length < sizeLine := size_lt (by simp at hl; omega)
    rw [List.map_cons]
    unfold compD
    simp only [h1, h2, h3, noX_ok, bind_ok, if_true, hlt]
    rw [comp_mapT emb f xs (acc ++ [f x]) (fun y hy => h y (List.mem_cons_of_mem _ hy)) (by simp at hl ⊢; omega)]
    simp
/-- a comprehension that draws: of each item something of a sort -/
theorem comp_draw {α : Type} {g : GM} {e : EM} {η : Env'} {m : Mem} {i : Nat} {ds : List D} (emb : α → D) (P : α → Prop) (hf : FlowAt m i) (hl : ds.length ≤ 1000000)
    (h : ∀ d m', d ∈ ds → Flo m m' i → Tri (noX (g d η m')) (fun η1 m1 => Tri (noX (e η1 m1)) (fun y m2 => ∃ a, y = emb a ∧ P a ∧ Flo m m2 i))) :
    Tri (compD g mYes e η ds m []) (fun acc m' => ∃ as : List α, acc = as.map emb ∧ as.length = ds.length ∧ (∀ a ∈ as, P a) ∧ Flo m m' i) := by
  refine comp_inv (fun j m' acc => ∃ as : List α, acc = as.map emb ∧ as.length = j ∧ (∀ a ∈ as, P a) ∧ Flo m m' i) ds ⟨[], rfl, rfl, by simp, Flo.refl hf⟩ ?_
  rintro j d m' acc hd hj ⟨as, rfl, hlen, hP, hfl⟩
  rw [tri_bind]
  refine (h d m' hd hfl).mono fun η1 m1 h1 => ?_
  simp only [ap_yes, noX_ok, bind_ok, if_true]
  rw [tri_bind]
  refine h1.mono fun y m2 ⟨a, ha, hPa, hfl2⟩ => ?_
  subst ha
  rw [List.length_map, hlen, if_pos (size_lt (by omega))]
  exact ⟨as ++ [a], by simp, by simp [hlen], fun b hb => by
    rcases List.mem_append.mp hb with hb | hb
    · exact hP b hb
    · simp at hb; subst hb; exact hPa, hfl2⟩
end Mir

/-! Mir: mirrors that laws share (printed by share.py). -/
namespace Mir.Y
open PySem PySem.Spec PyProof.Rows L2 Mir
def b__law_flow : SM := (mRet (mLst true (mCons (mCB (bList false) (mCons (mVar 0) mNil)) (mCons (mC (.int 0)) (mCons (mC (.int 0)) (mCons (mC (.int 1)) (mCons (mC (.int 0)) mNil)))))))
def m__law_flow : FM := mFn 1 1 b__law_flow
def b__law_pick_0s2 : SM := (mIfS (mTest (mOp gGe (mVar 2) (mOp gPow (mC (.int 10)) (mC (.int 18))))) (mAsg (mVar 2) (gSubT (mVar 0) (mC (.int 2)))) (mAsg (mOp gMod (mOp (gAdd false) (mOp (gAdd false) (mOp gMulI (mOp gIx (mVar 0) (mC (.int 3))) (mC (.int 40013))) (mOp gMod (mVar 2) (mC (.int 1000003)))) (mC (.int 1))) (mC (.int 2147483647))) (gSubT (mVar 0) (mC (.int 3)))))
def b__law_pick_0s1 : SM := mSeq (mAsg (mOp (gAdd false) (mOp gIx (mVar 0) (mC (.int 1))) (mC (.int 1))) (gSubT (mVar 0) (mC (.int 1)))) b__law_pick_0s2
def b__law_pick_0 : SM := mSeq (mAsg (mOp gIx (mOp gIx (mVar 0) (mC (.int 0))) (mOp gIx (mVar 0) (mC (.int 1)))) (gNm 2)) b__law_pick_0s1
def b__law_pick_1s2 : SM := (mRet (mVar 3))
def b__law_pick_1s1 : SM := mSeq (mAsg (mOp gFdiv (mOp gIx (mVar 0) (mC (.int 2))) (mVar 1)) (gSubT (mVar 0) (mC (.int 2)))) b__law_pick_1s2
def b__law_pick_1 : SM := mSeq (mAsg (mOp gMod (mOp gIx (mVar 0) (mC (.int 2))) (mVar 1)) (gNm 3)) b__law_pick_1s1
def b__law_pick_s4 : SM := (mRet (mOp gMod (mOp gFdiv (mOp gMod (mOp gMulI (mOp (gAdd false) (mOp gMod (mOp gIx (mVar 0) (mC (.int 3))) (mC (.int 65521))) (mC (.int 1))) (mOp (gAdd false) (mOp gFdiv (mOp gIx (mVar 0) (mC (.int 3))) (mC (.int 65521))) (mC (.int 7919)))) (mC (.int 1000003))) (mC (.int 7))) (mVar 1)))
def b__law_pick_s3 : SM := mSeq (mAsg (mOp gMod (mOp (gAdd false) (mOp (gAdd false) (mOp gMulI (mOp gIx (mVar 0) (mC (.int 3))) (mC (.int 48271))) (mC (.int 12820163))) (mOp gIx (mVar 0) (mC (.int 4)))) (mC (.int 2147483647))) (gSubT (mVar 0) (mC (.int 3)))) b__law_pick_s4
def b__law_pick_s2 : SM := mSeq (mAsg (mOp (gAdd false) (mOp gIx (mVar 0) (mC (.int 4))) (mC (.int 1))) (gSubT (mVar 0) (mC (.int 4)))) b__law_pick_s3
def b__law_pick_s1 : SM := mSeq (mIfS (mTest (mOp gGt (mOp gIx (mVar 0) (mC (.int 2))) (mC (.int 0)))) b__law_pick_1 mSkip) b__law_pick_s2
def b__law_pick : SM := mSeq (mIfS (mAnd (mTest (mOp (gEq false) (mOp gIx (mVar 0) (mC (.int 2))) (mC (.int 0)))) (mTest (mOp gLt (mOp gIx (mVar 0) (mC (.int 1))) (mCB bLen (mCons (mOp gIx (mVar 0) (mC (.int 0))) mNil))))) b__law_pick_0 mSkip) b__law_pick_s1
def m__law_pick : FM := mFn 2 4 b__law_pick
def b__law_word_s3 : SM := (mRet (mVar 2))
def b__law_word_s2 : SM := mSeq (mIfS (mTest (mOp (gIn false) (mVar 2) (mTup (mCons (mC (.str (Str.ofString "deeds"))) (mCons (mC (.str (Str.ofString "room"))) (mCons (mC (.str (Str.ofString "heap"))) (mCons (mC (.str (Str.ofString "map"))) (mCons (mC (.str (Str.ofString "yard"))) mNil)))))))) (mAsg (mOp (gAdd false) (mSl (gSl false) (mVar 2) mNoPart (mPart (mUn gNeg (mC (.int 1))))) (mC (.str (Str.ofString "q")))) (gNm 2)) mSkip) b__law_word_s3
def b__law_word_s1 : SM := mSeq (mAsg (mBM "str" gJoin (mC (.str (Str.ofString ""))) (mCons (mLc [3] false (mRng1 (mOp (gAdd false) (mC (.int 1)) (mCall m__law_pick (mCons (mVar 0) (mCons (mC (.int 6)) mNil))))) (gNm 3) mYes (mOp gIx (mVar 1) (mCall m__law_pick (mCons (mVar 0) (mCons (mC (.int 26)) mNil))))) mNil)) (gNm 2)) b__law_word_s2
def b__law_word : SM := mSeq (mAsg (mC (.str (Str.ofString "abcdefghijklmnopqrstuvwxyz"))) (gNm 1)) b__law_word_s1
def m__law_word : FM := mFn 1 4 b__law_word
def b__law_alike_0s2 (rc : FM) : SM := (mRet (mCB (bAll fun bs => bs.all id) (mCons (mLc [2, 3] false (mZip (mVar 0) (mVar 1)) (gTp 2 (gsCons (gNm 2) (gsCons (gNm 3) gsNil))) mYes (mCall rc (mCons (mVar 2) (mCons (mVar 3) mNil)))) mNil)))
def b__law_alike_0s1 (rc : FM) : SM := mSeq (mIfS (mTest (mOp (gEq true) (mCB bLen (mCons (mVar 0) mNil)) (mCB bLen (mCons (mVar 1) mNil)))) (mRet (mC (.bl false))) mSkip) (b__law_alike_0s2 rc)
def b__law_alike_0 (rc : FM) : SM := mSeq (mIfS (mOr (mTest (mOp (gEq true) (mIsi "list" (mVar 0)) (mIsi "list" (mVar 1)))) (mTest (mOp (gEq true) (mIsi "tuple" (mVar 0)) (mIsi "tuple" (mVar 1))))) (mRet (mC (.bl false))) mSkip) (b__law_alike_0s1 rc)
def b__law_alike_s2 (rc : FM) : SM := (mRet (mAndV (mIsi "int" (mVar 0)) (mAndV (mOp (gEq false) (mIsi "bool" (mVar 0)) (mIsi "bool" (mVar 1))) (mOp (gEq false) (mVar 0) (mVar 1)))))
def b__law_alike_s1 (rc : FM) : SM := mSeq (mIfS (mOr (mTru (mIsi "str" (mVar 1))) (mTest (mOp (gIs false) (mVar 1) (mC .non)))) (mRet (mAndV (mOp (gEq false) (mIsi "str" (mVar 0)) (mIsi "str" (mVar 1))) (mOp (gEq false) (mVar 0) (mVar 1)))) mSkip) (b__law_alike_s2 rc)
def b__law_alike (rc : FM) : SM := mSeq (mIfS (mTru (mIsiT ["list", "tuple"] (mVar 1))) (b__law_alike_0 rc) mSkip) (b__law_alike_s1 rc)
def m__law_alike : Nat → FM
  | 0 => mFn 2 4 mStk
  | n + 1 => mFn 2 4 (b__law_alike (m__law_alike n))
def b_common_s1 : SM := (mRet (mCB bAbs (mCons (mVar 0) mNil)))
def b_common : SM := mSeq (mWhile (mTest (mOp (gEq true) (mVar 1) (mC (.int 0)))) (mPar 0 1 (mCons (mVar 1) (mCons (mOp gMod (mVar 0) (mVar 1)) mNil)))) b_common_s1
def m_common : FM := mFn 2 2 b_common
def b_fraction_s2 : SM := (mRet (mTup (mCons (mOp gFdiv (mVar 0) (mVar 2)) (mCons (mOp gFdiv (mVar 1) (mVar 2)) mNil))))
def b_fraction_s1 : SM := mSeq (mIfS (mTest (mOp gLt (mVar 1) (mC (.int 0)))) (mAsg (mOp gSub (mC (.int 0)) (mVar 2)) (gNm 2)) mSkip) b_fraction_s2
def b_fraction : SM := mSeq (mAsg (mCall m_common (mCons (mVar 0) (mCons (mVar 1) mNil))) (gNm 2)) b_fraction_s1
def m_fraction : FM := mFn 2 3 b_fraction
def b__law_common_s2 : SM := (mRet (mVar 0))
def b__law_common_s1 : SM := mSeq (mWhile (mTest (mOp gGt (mVar 1) (mC (.int 0)))) (mPar 0 1 (mCons (mVar 1) (mCons (mOp gMod (mVar 0) (mVar 1)) mNil)))) b__law_common_s2
def b__law_common : SM := mSeq (mPar 0 1 (mCons (mCB bAbs (mCons (mVar 0) mNil)) (mCons (mCB bAbs (mCons (mVar 1) mNil)) mNil))) b__law_common_s1
def m__law_common : FM := mFn 2 2 b__law_common
end Mir.Y

/-! Mir: `is True`. -/
namespace Mir
open PySem PySem.Spec PyProof.Rows L2
section
variable {X : Cx} {E : XK}
end
end Mir

/-! Mir, dicts: keys that are ints or texts (dK), keys that are tuples of ints (dT). -/
namespace Mir
open PySem PySem.Spec PyProof.Rows L2

section
variable {κ : Type} [DecidableEq κ]
def valD (kvs : List (κ × D)) (k : κ) : Option D := (kvs.find? fun kv => decide (kv.1 = k)).map (·.2)
end
/-! ### entries -/
section
variable {κ : Type} [DecidableEq κ] {K : PySem.W.Frag} {W : Wd} {H : Hp}
theorem valD_rep : ∀ {kvs : List (κ × D)} {us : List (κ × V)}, us.map (·.1) = kvs.map (·.1) → Reps K W H (kvs.map (·.2)) (us.map (·.2)) → ∀ k, match valD kvs k with
    | some d => ∃ v, valV us k = some v ∧ Rep K W H d v
    | none => valV us k = none
  | [], us, h, r, k => by
    cases us with
    | nil => rfl
    | cons u us => cases h
  | kv :: kvs, us, h, r, k => by
    cases us with
    | nil => cases h
    | cons u us =>
      rw [List.map_cons, List.map_cons] at h
      injection h with h1 h2
      obtain ⟨v, t, e, r1, r2⟩ := r.cons'
      rw [List.map_cons] at e
      injection e with e1 e2
      subst e1 e2
      by_cases hk : kv.1 = k
      · have : valD (kv :: kvs) k = some kv.2 := by simp [valD, List.find?_cons, hk]
        rw [this]
        exact ⟨u.2, valV_pos (h1.trans hk), r1⟩
      · have : valD (kv :: kvs) k = valD kvs k := by simp [valD, List.find?_cons, hk]
        rw [this, valV_neg (fun e => hk (h1 ▸ e))]
        exact valD_rep h2 r2 k
end
/-! ### a dict of tuples in the heap -/
abbrev kvI (p : List Int × Addr × V) (q : List Int × Addr × Value) : Prop := p.1 = q.1 ∧ p.2.1 = q.2.1 ∧ RelV p.2.2 q.2.2
theorem items_int {P : Program} {w : World} : ∀ {ks : List Int} {us : List Value}, Vals (ks.map V.int) us → ItemsAre (intKind P w) ks us
  | [], _, r => by rw [List.map_nil] at r; cases r; exact .nil
  | k :: ks, _, r => by
    rw [List.map_cons] at r
    cases r with
    | @cons _ b _ _ h t =>
      obtain ⟨tk, e⟩ := (show ∃ tk, b = Value.int k tk from h)
      subst e
      exact .cons (by simp [intKind, Value.isInt]) (items_int t)
section
variable {X : Cx} {E : XK} {pins : List (Addr × Obj)} {σ : SL} {H : Hp} {s : Shared} {a : Addr}
theorem sqF_key {b : Addr} {k : List Int} (I : Inv X pins σ H s) (q : SqF X.K H b (k.map V.int)) : (tupleKind (intKind X.prog X.w)).is s.heap k b := by
  obtain ⟨its, r, ⟨o, h1, h2, n, h3⟩, _⟩ := I.tuple q.t
  exact ⟨o, its.toArray, n, h1, h2, h3, by simpa using items_int r⟩
theorem dictI_of {us : List (List Int × Addr × V)} (I : Inv X pins σ H s) (e : Rd H a (dictI a us)) (ks : ∀ x ∈ us, SqF X.K H x.2.1 (x.1.map V.int)) : us.length ≤ sizeLine ∧ (a == sysModules) = false ∧
    ∃ xs, Paired kvI us xs ∧ s.heap.DictOfH (tupleKind (intKind X.prog X.w)) a xs := by
  have e' : ObjOk X.prog X.w H s.heap a (dictI a us) := by
    rcases e with e | ⟨od, e⟩
    · exact I.hok a _ e
    · exact (I.hok a _ e).2
  obtain ⟨⟨z, y, xs, r, o, es, ep, h1, h2, h3, h4, h5⟩, _⟩ := e'
  refine ⟨z, y, xs, r, o, es, ep, h1, h2, h3, h4, fun x hx => ?_, h5⟩
  have all : ∀ {us : List (List Int × Addr × V)} {xs : List (List Int × Addr × Value)}, Paired kvI us xs → (∀ x ∈ us, SqF X.K H x.2.1 (x.1.map V.int)) → ∀ x ∈ xs, (tupleKind (intKind X.prog X.w)).is s.heap x.1 x.2.1 := by
    intro us xs r
    induction r with
    | nil => intro _ x hx; exact nomatch hx
    | @cons p q ps qs hq t ih =>
      intro ks x hx
      rcases List.mem_cons.mp hx with e | hx
      · rw [e, ← hq.1, ← hq.2.1]
        exact sqF_key I (ks p List.mem_cons_self)
      · exact ih (fun x h => ks x (List.mem_cons_of_mem _ h)) x hx
  exact all r ks x hx
/-- what a dict cell holds -/
structure DRep (X : Cx) (W : Wd) (H : Hp) (a : Addr) (kvs : List (List Int × D)) (us : List (List Int × Addr × V)) : Prop where
  at' : H a = some (dictI a us)
  ks : us.map (·.1) = kvs.map (·.1)
  sq : ∀ x ∈ us, SqF X.K H x.2.1 (x.1.map V.int)
  vs : Reps X.K W H (kvs.map (·.2)) (us.map (·.2.2))
theorem DRep.val {W : Wd} {kvs : List (List Int × D)} {us : List (List Int × Addr × V)} (h : DRep X W H a kvs us) (k : List Int) : match valD kvs k with
    | some d => ∃ v, valV (us.map fun x => (x.1, x.2.2)) k = some v ∧ Rep X.K W H d v
    | none => valV (us.map fun x => (x.1, x.2.2)) k = none :=
  valD_rep (us := us.map fun x => (x.1, x.2.2)) (by rw [List.map_map]; exact h.ks) (by rw [List.map_map]; exact h.vs) k
end
end Mir

/-! Mir, dicts: the rules. -/
namespace Mir
open PySem PySem.Spec PyProof.Rows L2
section
variable {X : Cx} {E : XK} {pins : List (Addr × Obj)} {σ : SL} {H : Hp} {s : Shared} {W : Wd} {m : Mem}
def RepO (K : PySem.W.Frag) (W : Wd) (H : Hp) (o : Option D) (w : Option V) : Prop := match o with
  | some d => ∃ v, w = some v ∧ Rep K W H d v
  | none => w = none
theorem RepO.iso {K : PySem.W.Frag} {W : Wd} {H : Hp} {o : Option D} {w : Option V} (h : RepO K W H o w) : w.isSome = o.isSome := by
  cases o with
  | none => rw [show w = none from h]; rfl
  | some d => obtain ⟨v, e, _⟩ := h; rw [e]; rfl
theorem dgk {a : Addr} {us : List (Key × V)} {k : Key} (e : Rd H a (.dK us)) : DGet H a (kV k) (valV us k) := .inl ⟨us, k, e, rfl, rfl⟩
/-- a look-up: in a dict of either sort -/
inductive Look' (X : Cx) (W : Wd) (H : Hp) (a : Addr) (y : V) (o : Option D) : Prop where
  | k (us : List (Key × V)) (k : Key) (w : Option V) (h : Rd H a (.dK us)) (hy : y = kV k) (hw : valV us k = w) (hr : RepO X.K W H o w)
  | t (us : List (List Int × Addr × V)) (k : List Int) (b : Addr) (w : Option V) (h : Rd H a (dictI a us)) (ks : ∀ x ∈ us, SqF X.K H x.2.1 (x.1.map V.int)) (hy : y = .ref b) (hb : SqF X.K H b (k.map V.int)) (hw : valV (us.map fun x => (x.1, x.2.2)) k = w) (hr : RepO X.K W H o w)
theorem Look'.typeIs {a : Addr} {y : V} {o : Option D} (I : Inv X pins σ H s) (l : Look' X W H a y o) : s.TypeIs (.ref a) "dict" := by
  cases l with
  | k us k w h hy hw hr => exact dict_typeIs I (dgk (k := k) h)
  | t us k b w h ks hy hb hw hr =>
    obtain ⟨_, _, xs, _, dd⟩ := dictI_of I h ks
    exact dd.typeIs
/-! ### a store -/
end
end Mir

/-! Mir, dicts: new ones, displays, len. -/
namespace Mir
open PySem PySem.Spec PyProof.Rows L2
section
variable {X : Cx} {E : XK} {pins : List (Addr × Obj)} {σ : SL} {H : Hp} {s : Shared} {W : Wd} {m : Mem}
end
end Mir

/-! Mir: mirrors that laws share (printed by share2.py). -/
namespace Mir.Y
open PySem PySem.Spec PyProof.Rows L2 Mir
end Mir.Y

/-! Mir: len(set(..)) of whole numbers, shifts. -/
namespace Mir
open PySem PySem.Spec PyProof.Rows L2
/-- the unlike numbers, as they come up -/
def unl (ns : List Int) : List Int := ns.foldl PyProof.Rows.step_dedup []
theorem step_any (l : List Int) (x : Int) : PyProof.Rows.step_dedup l x = if x ∈ l then l else l ++ [x] := by
  show (if l.any (· == x) = true then l else l ++ [x]) = _
  by_cases h : x ∈ l
  · rw [if_pos h, if_pos (List.any_eq_true.mpr ⟨x, h, by simp⟩)]
  · rw [if_neg h, if_neg]
    intro q
    obtain ⟨y, hy, e⟩ := List.any_eq_true.mp q
    rw [eq_of_beq e] at hy
    exact h hy
theorem unl_from : ∀ (ns l : List Int), l.Nodup → (ns.foldl PyProof.Rows.step_dedup l).Nodup ∧ ∀ x, x ∈ ns.foldl PyProof.Rows.step_dedup l ↔ x ∈ l ∨ x ∈ ns
  | [], l, h => ⟨h, fun x => by simp⟩
  | n :: ns, l, h => by
    have h1 : (PyProof.Rows.step_dedup l n).Nodup := by
      rw [step_any]
      split
      · exact h
      · rename_i hn
        exact List.nodup_append.mpr ⟨h, by simp, fun a ha b hb => by
          have : b = n := by simpa using hb
          rintro rfl
          exact hn (this ▸ ha)⟩
    obtain ⟨h2, h3⟩ := unl_from ns (PyProof.Rows.step_dedup l n) h1
    refine ⟨h2, fun x => ?_⟩
    rw [List.foldl_cons, h3 x, step_any, List.mem_cons]
    split
    · rename_i hn
      constructor
      · rintro (a | a)
        · exact .inl a
        · exact .inr (.inr a)
      · rintro (a | rfl | a)
        · exact .inl a
        · exact .inl hn
        · exact .inr a
    · rw [List.mem_append, List.mem_singleton, or_assoc]
theorem unl_nodup (ns : List Int) : (unl ns).Nodup := (unl_from ns [] .nil).1
theorem unl_mem {ns : List Int} {x : Int} : x ∈ unl ns ↔ x ∈ ns := by
  rw [show unl ns = ns.foldl PyProof.Rows.step_dedup [] from rfl, (unl_from ns [] .nil).2 x]
  simp
theorem nodup_le {α : Type} [DecidableEq α] : ∀ (l k : List α), l.Nodup → (∀ x ∈ l, x ∈ k) → l.length ≤ k.length
  | [], _, _, _ => Nat.zero_le _
  | x :: l, k, hn, hs => by
    obtain ⟨h1, h2⟩ := List.nodup_cons.mp hn
    have hx : x ∈ k := hs x List.mem_cons_self
    have ih := nodup_le l (k.erase x) h2 fun y hy => by
      have hne : y ≠ x := fun e => h1 (e ▸ hy)
      exact (List.mem_erase_of_ne hne).2 (hs y (List.mem_cons_of_mem _ hy))
    have e := List.length_erase_of_mem hx
    have hp : 0 < k.length := List.length_pos_of_mem hx
    rw [List.length_cons]
    omega
theorem unl_is {ns l : List Int} (h : l.Nodup) (h2 : ∀ x, x ∈ l ↔ x ∈ ns) : (unl ns).length = l.length :=
  Nat.le_antisymm (nodup_le _ _ (unl_nodup ns) fun x hx => (h2 x).mpr (unl_mem.mp hx)) (nodup_le _ _ h fun x hx => unl_mem.mpr ((h2 x).mp hx))
theorem unl_all {ns : List Int} : (unl ns).length = ns.length ↔ ns.Nodup := by
  constructor
  · intro h
    have key : ∀ (ns l : List Int), (ns.foldl PyProof.Rows.step_dedup l).length = l.length + ns.length → l.Nodup → (l ++ ns).Nodup := by
      intro ns
      induction ns with
      | nil => intro l _ h; simpa using h
      | cons n ns ih =>
        intro l h hl
        have hle : ∀ (ns l : List Int), (ns.foldl PyProof.Rows.step_dedup l).length ≤ l.length + ns.length := by
          intro ns
          induction ns with
          | nil => intro l; simp
          | cons n ns ih =>
            intro l
            have := ih (PyProof.Rows.step_dedup l n)
            have h2 : (PyProof.Rows.step_dedup l n).length ≤ l.length + 1 := by rw [step_any]; split <;> simp
            rw [List.foldl_cons, List.length_cons]
            omega
        have h1 := hle ns (PyProof.Rows.step_dedup l n)
        rw [List.foldl_cons, List.length_cons] at h
        by_cases hn : n ∈ l
        · rw [step_any, if_pos hn] at h h1
          omega
        · have e : PyProof.Rows.step_dedup l n = l ++ [n] := by rw [step_any, if_neg hn]
          rw [e] at h
          have := ih (l ++ [n]) (by rw [h]; simp; omega) (List.nodup_append.mpr ⟨hl, by simp, fun a ha b hb => by
            have : b = n := by simpa using hb
            rintro rfl
            exact hn (this ▸ ha)⟩)
          simpa using this
    have := key ns [] (by show (unl ns).length = _; rw [h]; simp) .nil
    simpa using this
  · intro h
    exact unl_is h fun x => Iff.rfl
section
variable {X : Cx} {E : XK}
end
end Mir

/-! Mir: shifts, d.setdefault(k, x), max(.., default=x). -/
namespace Mir
open PySem PySem.Spec PyProof.Rows L2
section
variable {X : Cx} {E : XK}
end
/-! ### setdefault -/
section
variable {X : Cx} {E : XK}
end
/-! ### max(.., default=d) -/
section
variable {prog : Program} {w : World} {A : Around} {R' : Result → Shared → Prop} {J : Addr} {fp wr : List Addr} {n : Nat} {P : Nat → Value → Prop} {St : Nat → Heap → Prop}
end
section
variable {prog : Program} {w : World} {A : Around} {Ex : Value → Shared → Prop} {s : Shared}
end
section
variable {X : Cx} {E : XK}
end
end Mir

/-! Mir: walks over a dict's keys: the dict is locked from then on. -/
namespace Mir
open PySem PySem.Spec PyProof.Rows L2
section
variable {X : Cx} {E : XK} {pins : List (Addr × Obj)} {σ : SL} {H : Hp} {s : Shared} {W : Wd} {m : Mem}
end
section
variable {P : Program} {w : World} {K : PySem.W.Frag} {tg : Expr} {d : Addr} {o : Obj} {es : Array DictEntry} {ep : Nat}
end
section
variable {X : Cx} {E : XK} {tg it : Expr} {W : Wd} {H : Hp} {m : Mem}
end
end Mir

/-! Mir: sorted(set(..)) of texts. -/
namespace Mir
open PySem PySem.Spec PyProof.Rows L2
def txOf (e : Int × Value) : Str := match e.2 with
  | .str x _ => x
  | _ => Str.empty
section
variable {P : Program} {w : World}
def TxE (P : Program) (w : World) (e : Int × Value) : Prop := ∃ x t, e.2 = Value.str x t ∧ e.1 = (strKind P w).hash x
/-- a set of texts, all that have been added -/
def SetTx (P : Program) (w : World) (h : Heap) (a : Addr) (xs : List Str) : Prop :=
  ∃ o es ep t, h.get? a = some o ∧ o.ExactSet ∧ o.data = .set es ep t ∧ ((∀ e ∈ es.toList, TxE P w e) ∧ (es.toList.map txOf).Nodup ∧ ∀ x, x ∈ es.toList.map txOf ↔ x ∈ xs) ∧ (es.size < scanBound ∧ es.size ≤ xs.length) ∧ t.fits es.size = true ∧ Ris t.place.toList ∧ (w.params.followText "set-order" = true ∨ t.led = true)
theorem SetTx.at {h h' : Heap} {a : Addr} {xs : List Str} (R : SetTx P w h a xs) (k : ∀ o, h.get? a = some o → h'.get? a = some o) : SetTx P w h' a xs := by
  obtain ⟨o, es, ep, t, ho, r⟩ := R
  exact ⟨o, es, ep, t, k o ho, r⟩
variable {A : Around} {Ex : Value → Shared → Prop} {s : Shared} {a : Addr} {xs : List Str}
end
end Mir

/-! Mir: sorted(set(xs)) of texts. -/
namespace Mir
open PySem PySem.Spec PyProof.Rows L2
/-- unlike texts -/
def unlS : List Str → List Str
  | [] => []
  | x :: r => if (unlS r).contains x then unlS r else x :: unlS r
section
variable {P : Program} {w : World} {A : Around} {Ex : Value → Shared → Prop} {s : Shared} {a : Addr} {xs : List Str}
end
def sortSetR (al : Bool) (m : Mem) : Option (List Str) → R D
  | some xs => if xs.length < 64 then mkL al ((sortS (unlS xs)).map .str) m else .stk
  | none => .stk
/-- sorted(set(xs)) of texts -/
def mSortSet (al : Bool) (c : EM) : EM := fun η m => (c η m).bind fun d m1 => sortSetR al m1 ((lstOf m1 d).bind (mapO strOf))
section
variable {X : Cx} {E : XK}
end
end Mir

/-! Mir: dict(a list of pairs): keys ints or texts. -/
namespace Mir
open PySem PySem.Spec PyProof.Rows L2
section
variable {X : Cx} {E : XK} {K : PySem.W.Frag} {W : Wd} {H : Hp}
end
section
variable {X : Cx} {E : XK}
end
/-! ### keys that are tuples of ints -/
section
variable {K : PySem.W.Frag} {W : Wd} {H : Hp}
end
section
variable {X : Cx} {E : XK} {pins : List (Addr × Obj)} {σ : SL} {H : Hp} {s : Shared}
end
end Mir

/-! Mir: mirrors that laws share (printed by share3.py). -/
namespace Mir.Y
open PySem PySem.Spec PyProof.Rows L2 Mir
end Mir.Y

/-! Mir: three names at once. -/
namespace Mir
open PySem PySem.Spec PyProof.Rows L2
section
variable {X : Cx} {E : XK} {pos : Pos}
end
end Mir

/-! Mir: sorted of a tuple of texts. -/
namespace PyProof.Rows
open PySem PySem.Spec
section
variable {prog : Program} {w : World} {A : Around} {E : Value → Shared → Prop} {s : Shared}
end
end PyProof.Rows
namespace Mir
open PySem PySem.Spec PyProof.Rows L2
section
variable {X : Cx} {E : XK}
end
end Mir

/-! Mir: mirrors that laws share (printed by share4.py). -/
namespace Mir.Y
open PySem PySem.Spec PyProof.Rows L2 Mir
def b_names_in : SM := (mRet (mSortSet false (mOp (gAdd false) (mCB (bList false) (mCons (mOp gIx (mVar 0) (mC (.int 0))) mNil)) (mCB (bList false) (mCons (mOp gIx (mVar 1) (mC (.int 0))) mNil)))))
def m_names_in : FM := mFn 2 2 b_names_in
end Mir.Y

/-! Mir: mirrors that laws share (printed by shareV.py). -/
namespace Mir.V
open PySem PySem.Spec PyProof.Rows L2 Mir Mir.Y
end Mir.V

/-! Mir: mirrors that laws share, with their constants (printed by share5.py). -/
namespace Mir.Y
open PySem PySem.Spec PyProof.Rows L2 Mir
def gd_LETTERS : D := .str (Str.ofString "abcdefghijklmnopqrstuvwxyz")
def gd_LONGEST_NAME : D := .int 6
def gd_KEPT_WORDS : D := .tup [.str (Str.ofString "deeds"), .str (Str.ofString "room"), .str (Str.ofString "heap"), .str (Str.ofString "map"), .str (Str.ofString "yard")]
def gd_FIGURES : D := .str (Str.ofString "0123456789")
def gd_MOST_FIGURES : D := .int 30
def b_is_name_s1 : SM := (mRet (mCB (bAll fun bs => bs.all id) (mCons (mLc [1] false (mIt (mVar 0)) (gNm 1) mYes (mOp (gIn false) (mVar 1) (mC gd_LETTERS))) mNil)))
def b_is_name : SM := mSeq (mIfS (mOr (mNot (mTest (mChain gLe gLe (mC (.int 1)) (mCB bLen (mCons (mVar 0) mNil)) (mC gd_LONGEST_NAME)))) (mTest (mOp (gIn false) (mVar 0) (mC gd_KEPT_WORDS)))) (mRet (mC (.bl false))) mSkip) b_is_name_s1
def m_is_name : FM := mFn 1 2 b_is_name
def b_is_figures_s1 : SM := (mRet (mOrV (mOp (gEq false) (mVar 0) (mC (.str (Str.ofString "0")))) (mOp (gEq true) (mOp gIx (mVar 0) (mC (.int 0))) (mC (.str (Str.ofString "0"))))))
def b_is_figures : SM := mSeq (mIfS (mOr (mNot (mTest (mChain gLe gLe (mC (.int 1)) (mCB bLen (mCons (mVar 0) mNil)) (mVar 1)))) (mNot (mTru (mCB (bAll fun bs => bs.all id) (mCons (mLc [2] false (mIt (mVar 0)) (gNm 2) mYes (mOp (gIn false) (mVar 2) (mC gd_FIGURES))) mNil))))) (mRet (mC (.bl false))) mSkip) b_is_figures_s1
def m_is_figures : FM := mFn 2 3 b_is_figures
def b_is_whole : SM := (mRet (mAndV (mIsi "int" (mVar 0)) (mNotV (mIsi "bool" (mVar 0)))))
def m_is_whole : FM := mFn 1 1 b_is_whole
def b_are_texts : SM := (mRet (mAndV (mIsi "tuple" (mVar 0)) (mCB (bAll fun bs => bs.all id) (mCons (mLc [1] false (mIt (mVar 0)) (gNm 1) mYes (mIsi "str" (mVar 1))) mNil))))
def m_are_texts : FM := mFn 1 2 b_are_texts
def b_number_of_s4 : SM := (mRet (mCB bInt (mCons (mVar 3) mNil)))
def b_number_of_s3 : SM := mSeq (mIfS (mTru (mVar 2)) (mRet (mOp gSub (mC (.int 0)) (mCB bInt (mCons (mVar 3) mNil)))) mSkip) b_number_of_s4
def b_number_of_s2 : SM := mSeq (mIfS (mOr (mNot (mTru (mCall m_is_figures (mCons (mVar 3) (mCons (mVar 1) mNil))))) (mAnd (mTru (mVar 2)) (mTest (mOp (gEq false) (mVar 3) (mC (.str (Str.ofString "0"))))))) (mRet (mC .non)) mSkip) b_number_of_s3
def b_number_of_s1 : SM := mSeq (mAsg (mIf (mTru (mVar 2)) (mSl (gSl false) (mVar 0) (mPart (mC (.int 1))) mNoPart) (mVar 0)) (gNm 3)) b_number_of_s2
def b_number_of : SM := mSeq (mAsg (mOp (gEq false) (mSl (gSl false) (mVar 0) mNoPart (mPart (mC (.int 1)))) (mC (.str (Str.ofString "-")))) (gNm 2)) b_number_of_s1
def m_number_of : FM := mFn 2 4 b_number_of
def b_is_room_s1 : SM := (mRet (mCB (bAll fun bs => bs.all id) (mCons (mLc [2] false (mIt (mVar 0)) (gNm 2) mYes (mOrV (mOp (gIs false) (mVar 2) (mC .non)) (mCall m_is_whole (mCons (mVar 2) mNil)))) mNil)))
def b_is_room : SM := mSeq (mIfS (mOr (mNot (mTru (mIsi "tuple" (mVar 0)))) (mTest (mOp (gEq true) (mCB bLen (mCons (mVar 0) mNil)) (mVar 1)))) (mRet (mC (.bl false))) mSkip) b_is_room_s1
def m_is_room : FM := mFn 2 3 b_is_room
def b_has_form_s3 : SM := (mRet (mCB (bAll fun bs => bs.all id) (mCons (mLc [2] false (mIt (mVar 1)) (gNm 2) mYes (mCall m_is_room (mCons (mVar 2) (mCons (mCB bLen (mCons (mOp gIx (mVar 0) (mC (.int 0))) mNil)) mNil)))) mNil)))
def b_has_form_s2 : SM := mSeq (mIfS (mOr (mNot (mTru (mIsi "tuple" (mVar 1)))) (mTest (mOp (gEq false) (mCB bLen (mCons (mVar 1) mNil)) (mC (.int 0))))) (mRet (mC (.bl false))) mSkip) b_has_form_s3
def b_has_form_s1 : SM := mSeq (mAsg (mOp gIx (mVar 0) (mC (.int 1))) (gNm 1)) b_has_form_s2
def b_has_form : SM := mSeq (mIfS (mOr (mNot (mTru (mIsi "tuple" (mVar 0)))) (mOr (mTest (mOp (gEq true) (mCB bLen (mCons (mVar 0) mNil)) (mC (.int 2)))) (mNot (mTru (mCall m_are_texts (mCons (mOp gIx (mVar 0) (mC (.int 0))) mNil)))))) (mRet (mC (.bl false))) mSkip) b_has_form_s1
def m_has_form : FM := mFn 1 3 b_has_form
def b_fraction_of_s6 : SM := (mRet (mTup (mCons (mVar 1) (mCons (mVar 2) mNil))))
def b_fraction_of_s5 : SM := mSeq (mIfS (mOr (mTest (mOp (gIs false) (mVar 2) (mC .non))) (mOr (mTest (mOp gLt (mVar 2) (mC (.int 2)))) (mTest (mOp (gEq true) (mCall m_common (mCons (mVar 1) (mCons (mVar 2) mNil))) (mC (.int 1)))))) (mRet (mC .non)) mSkip) b_fraction_of_s6
def b_fraction_of_s4 : SM := mSeq (mAsg (mCallK 1 (List.length [Str.ofString "figures"]) [0, 1] [.int 9] m_number_of (mCons (mVar 5) mNil) (mCons (mC gd_MOST_FIGURES) mNil)) (gNm 2)) b_fraction_of_s5
def b_fraction_of_s3 : SM := mSeq (mIfS (mTest (mOp (gEq false) (mVar 4) (mC (.str (Str.ofString ""))))) (mRet (mTup (mCons (mVar 1) (mCons (mC (.int 1)) mNil)))) mSkip) b_fraction_of_s4
def b_fraction_of_s2 : SM := mSeq (mIfS (mTest (mOp (gIs false) (mVar 1) (mC .non))) (mRet (mC .non)) mSkip) b_fraction_of_s3
def b_fraction_of_s1 : SM := mSeq (mAsg (mCallK 1 (List.length [Str.ofString "figures"]) [0, 1] [.int 9] m_number_of (mCons (mVar 3) mNil) (mCons (mC gd_MOST_FIGURES) mNil)) (gNm 1)) b_fraction_of_s2
def b_fraction_of : SM := mSeq (mAsg (mBM "str" gPartition (mVar 0) (mCons (mC (.str (Str.ofString "/"))) mNil)) (gTp 3 (gsCons (gNm 3) (gsCons (gNm 4) (gsCons (gNm 5) gsNil))))) b_fraction_of_s1
def m_fraction_of : FM := mFn 1 6 b_fraction_of
end Mir.Y

/-! exceptions that are caught and kept: try .. except X as n, the exception tracked from the catch on -/
namespace Mir
open PySem PySem.Spec PyProof.Rows L2
section
variable {P : Program} {w : World} {H : Hp} {h : Heap} {a : Addr} {cls : Value} {d : Option Addr}
theorem exH_ok {oe : Obj} {vs : Array Value} (e : h.get? a = some oe) (z : Zc cls d oe) (hd : oe.data = .fields vs) : ObjOk P w H h a (ExH cls d a) :=
  ⟨⟨oe, vs, e, z, hd⟩, ⟨oe, e⟩, fun _ _ ⟨o, v, q, r⟩ k => ⟨o, v, k o q, r⟩⟩
theorem exH_at (hok : HOk P w H h) (he : H a = some (ExH cls d a)) : ∃ (oe : Obj) (vs : Array Value), h.get? a = some oe ∧ Zc cls d oe ∧ oe.data = .fields vs := (hok a _ he).1
end
section
variable {X : Cx} {pins : List (Addr × Obj)} {σ : SL} {H : Hp} {s : Shared}
/-- the exception is tracked -/
theorem inv_hold {a : Addr} {oe : Obj} {vs : Array Value} {cls : Value} {d : Option Addr} (I : Inv X pins σ H s) (ha : s.heap.get? a = some oe) (hz : Zc cls d oe) (hd : oe.data = .fields vs) (na : H a = none) (nL : a ≠ X.env.locals)
    (n0 : X.s_0.heap.get? a = none) (np : ∀ p ∈ X.pn ++ pins, p.1 ≠ a) : Inv (X.suite a (X.pn ++ pins)) [] σ (upd H a (ExH cls d a)) s := by
  refine ⟨I.ok.suite _ _, I.os, I.bare, ⟨I.base.keep, I.base.slot, fun b o e n x => ?_, I.base.there, fun b xs e => ?_, fun b o u e => ?_, fun b ps e => ?_⟩, I.loc, I.cell, ?_, fun y c e => ?_, fun p hp => ?_, fun b u e => ?_, I.len⟩
  · have hb : b ≠ a := by
      rintro rfl
      rw [n0] at e
      cases e
    rw [upd_ne hb]
    exact I.base.free b o e n x
  · have q := I.base.tups b xs e
    rw [upd_ne (ne_of_none q na)]
    exact q
  · have q := I.base.frzs b o u e
    rw [upd_ne (ne_of_none q na)]
    exact q
  · obtain ⟨more, q⟩ := I.base.tbls b ps e
    exact ⟨more, by rw [upd_ne (ne_of_none q na)]; exact q⟩
  · show upd H a _ X.env.locals = none
    rw [upd_ne (Ne.symm nL)]
    exact I.free
  · obtain ⟨v, z⟩ := I.cell y c e
    have hc : c ≠ a := by
      rintro rfl
      obtain ⟨o, z1, z2⟩ := z
      rw [ha] at z1
      cases z1
      rw [hd] at z2
      cases z2
    rw [upd_ne hc]
    exact I.freeC y c e
  · have hp' : p ∈ X.pn ++ pins := by rw [List.append_nil] at hp; exact hp
    obtain ⟨q1, q2, q3⟩ := I.pin p hp'
    exact ⟨q1, by rw [upd_ne (np p hp')]; exact q2, q3⟩
  · by_cases hb : b = a
    · subst hb
      rw [upd_same] at e
      cases e
      exact exH_ok ha hz hd
    · rw [upd_ne hb] at e
      exact (I.hok b u e).stay (fun c v _ q => q) (fun c q => by rw [upd_ne (ne_of_none q na)]; exact q) fun c xs q => by rw [upd_ne (ne_of_none q na)]; exact q
theorem inv_unhold {a : Addr} {pn' : List (Addr × Obj)} (I : Inv (X.suite a (X.pn ++ pins)) pn' σ H s) (ok : X.Ok) : Inv X pins σ H s :=
  ⟨ok, I.os, I.bare, I.base, I.loc, I.cell, I.free, I.freeC, fun p hp => I.pin p (List.mem_append_left _ hp), I.hok, I.len⟩
end
/-- an except clause: its class, the slot of its name, what its suite wishes -/
structure Hdl where
  c : Value
  i : Option Nat
  ts : TS
def Hdl.ends (D : Ends) : Option Nat → Ends
  | none => D
  | some i => { nx := fun σ' H' => D.nx (σ'.set i none) H', rt := D.rt, bk := fun σ' H' => D.bk (σ'.set i none) H', ct := fun σ' H' => D.ct (σ'.set i none) H' }
def Hdl.put (σ : SL) (a : Addr) : Option Nat → SL
  | none => σ
  | some i => σ.set i (some (.ref a))
def wHold (K : PySem.W.Frag) (n : Nat) (Wout : WX) (D : Ends) : List Hdl → WX
  | [] => Wout
  | h :: r => fun cls d σ H => ∃ b, PySem.W.exmOne K cls h.c = some b ∧ (b = true → σ.length = n → ∀ a, H a = none → h.ts (Hdl.ends D h.i) (Hdl.put σ a h.i) (upd H a (ExH cls d a))) ∧ (b = false → wHold K n Wout D r cls d σ H)
inductive HdsH (X : Cx) : List ExceptHandler → List Hdl → Prop
  | nil : HdsH X [] []
  | cons0 {x : Str} {c : Value} {ts : TS} {b₀ : Stmt} {suite : List Stmt} {np pos' : Pos} {hds : List ExceptHandler} {l : List Hdl} (hc : Names X x c)
      (hsu : ∀ (a : Addr) (pn : List (Addr × Obj)), PSs (X.suite a pn) (b₀ :: suite) ts) (r : HdsH X hds l) :
      HdsH X (.ExceptHandler (some (.Name x np)) none (b₀ :: suite) pos' :: hds) (⟨c, none, ts⟩ :: l)
  | cons {x n : Str} {c : Value} {i : Nat} {ts : TS} {b₀ : Stmt} {suite : List Stmt} {np pos' : Pos} {hds : List ExceptHandler} {l : List Hdl} (hc : Names X x c) (hi : X.N[i]? = some n) (hln : X.env.kindOf n = some .local)
      (hsu : ∀ (a : Addr) (pn : List (Addr × Obj)), PSs (X.suite a pn) (b₀ :: suite) ts) (r : HdsH X hds l) :
      HdsH X (.ExceptHandler (some (.Name x np)) (some n) (b₀ :: suite) pos' :: hds) (⟨c, some i, ts⟩ :: l)
section
variable {X : Cx} {body : List Stmt} {h₀ : ExceptHandler} {hds : List ExceptHandler} {l : List Hdl} {pos : Pos} {tb : WX → TS} {Wout : WX}
theorem ps_try_hold (hs : X.stack = X.env :: X.outer) (hf : X.env.frame = some X.env.locals) (hex : X.ex = []) (hN : X.N.Nodup) (tk : Takes X Wout)
    (hb : ∀ (W : WX) (pn : List (Addr × Obj)) (xe : Value → Shared → Prop), Takes (X.tr pn xe) W → PassesOwn (model X.prog X.w) X.A X.env xe → PSs (X.tr pn xe) body (tb W))
    (hh : HdsH X (h₀ :: hds) l) : PS X (.Try body (h₀ :: hds) [] [] pos) (fun D σ H => tb (wHold X.K X.N.length Wout D l) D σ H) := by
  refine ⟨fun pins s σ H D I h => ?_⟩
  have ok := I.ok
  have hfr : X.A.frames = some (X.env :: X.outer) := by rw [ok.frames, hs]
  refine wpAny_Try_except ?_
  refine wpAny_mono ((hb (wHold X.K X.N.length Wout D l) (X.pn ++ pins) (fun e s₁ => wpAny (model X.prog X.w) X.A (noteFrame e X.env) (fun _ s₂ => wpAny (model X.prog X.w) X.A (setFlight e none) (fun _ s₃ =>
    wpAny (model X.prog X.w) X.A (handleBy e X.env (h₀ :: hds)) (SP X pins D) X.xe s₃) X.xe s₂) X.xe s₁) (fun u s' xx => ?_) PassesOwn.looking).run [] s σ H D (I.toTry _) h) (fun f s1 hsp => ?_) (fun e s1 he => he)
  · -- the catch
    obtain ⟨a, B, sI, pins', σ', H', cls, d, rfl, J', nb, up, sky, na, os, ag, w⟩ := xx
    have J : Inv X pins σ' H' sI := J'.ofTry ok
    have sky' : Sky B (X.env :: X.outer) a (Zc cls d) X.env.locals s'.heap := by rw [← hs]; exact sky
    show wpAny (model X.prog X.w) X.A (noteFrame (.ref a) X.env) _ _ _
    refine Sky.land Zc.steady hfr hf sky' fun h3 fl3 up3 => ?_
    have J3 : Inv X pins σ' H' { s' with heap := h3 } := J.landed nb fl3.1 (up.trans up3) os ag
    obtain ⟨oe3, vs3, he3, hz3, hd3⟩ := fl3.there
    have notFr : ∀ {h : Heap} {o : Obj} {vs : Array Value}, h.FunFrames B (X.env :: X.outer) → h.get? a = some o → o.data = .fields vs → a ∉ frs (X.env :: X.outer) := fun {h o vs} ff e dd hm => by
      obtain ⟨_, o', e', hnf⟩ := ff.mem hm
      rw [e] at e'; cases e'
      exact hnf _ dd
    have nfr := notFr fl3.2.2.1 he3 hd3
    have nL : a ≠ X.env.locals := fun z => nfr (List.mem_filterMap.mpr ⟨X.env, List.mem_cons_self, by rw [hf, z]⟩)
    have nF : a ∉ X.fs := fun hm => by
      obtain ⟨e, he, q⟩ := List.mem_filterMap.mp hm
      exact nfr (List.mem_filterMap.mpr ⟨e, List.mem_cons_of_mem _ he, q⟩)
    have nI : sI.heap.get? a = none := by
      cases e : sI.heap.get? a with
      | none => rfl
      | some o =>
        have q := nb a o e (by rw [hs]; exact nfr)
        rw [fl3.2.1] at q
        cases q
    have n0 : X.s_0.heap.get? a = none := by
      cases e : X.s_0.heap.get? a with
      | none => rfl
      | some o =>
        obtain ⟨o', q⟩ := J.base.there a o e (by rw [hex]; simp)
        rw [nI] at q
        cases q
    have np : ∀ p ∈ X.pn ++ pins, p.1 ≠ a := fun p hp z => by
      have q := (J.pin p hp).1
      rw [z, nI] at q
      cases q
    have S3 := J3.suite he3 hd3 na nL nF
    have go : ∀ {hds' : List ExceptHandler} {l' : List Hdl}, HdsH X hds' l' → wHold X.K X.N.length Wout D l' cls d σ' H' →
        wpAny (model X.prog X.w) X.A (handleBy (.ref a) X.env hds') (SP X pins D) X.xe { s' with heap := h3 } := by
      intro hds' l' hk
      have LT : PySem.W.Looks (model X.prog X.w) h3 (typeOf (.ref a)) cls := fun A Q E s k q => wpAny_typeOf_ref (k _ _ he3) (by rw [hz3.1]; exact q)
      have test : ∀ {x : Str} {c : Value} {np : Pos} {Q : Value → Shared → Prop} {E : Value → Shared → Prop}, Names X x c → Q c { s' with heap := h3 } → wpAny (model X.prog X.w) (X.A.mark (some (.ref a))) (eval (.Name x np) X.env) Q E { s' with heap := h3 } := fun {x c np Q E} hc q => by
        obtain ⟨hg, hdbg, hm | ⟨hm, hv, hnn⟩⟩ := hc
        · exact ld_glob (X := X.suite a ((a, oe3) :: (X.pn ++ pins))) S3 hg hm q hdbg
        · exact ld_blt (X := X.suite a ((a, oe3) :: (X.pn ++ pins))) S3 hg hm hv q hnn hdbg
      induction hk with
      | nil =>
        intro w
        refine wpAny_handleBy_nil ?_
        obtain ⟨k1, k2, k3, oe, vs, T, oT, ts', he, hz, hd, h1, hr⟩ := id fl3
        unfold PySem.passOn
        refine wpAny_bind (wpAny_field he hd h1 ?_)
        rw [if_neg (show ¬ ((Value.ref T == Value.none) = true) from by simp)]
        have fin : wpAny (model X.prog X.w) X.A (setFlight (.ref a) X.env.frame) (fun _ s4 => wpAny (model X.prog X.w) X.A (throw (.ref a) : Sem Flow) (SP X pins D) X.xe s4) X.xe { s' with heap := h3 } := by
          rw [hf]
          refine HandSPX.setFlight_upZ fl3 fun h4 hh4 up4 => wpAny_throw (tk _ _ ?_)
          exact ⟨a, B, sI, pins, σ', H', cls, d, rfl, J, nb, (up.trans up3).trans up4, .inr (.inr (by rw [hs]; exact hh4)), na, os, ag, w⟩
        first
          | exact wpAny_bind (wpAny_pure (wpAny_bind fin))
          | exact wpAny_bind fin
      | @cons0 x c ts b₀ suite np' pos' hds2 l2 hc hsu r ih =>
        intro w
        obtain ⟨b, hb1, hyes, hno⟩ := w
        refine wpAny_handleBy_cons (codeAny_handlers_test ?_) (by intro q; cases q)
        have LM := PySem.W.exm_one (M := model X.prog X.w) (J3.kIn) LT hb1
        refine test hc (LM.here ?_)
        cases b with
        | true =>
          refine codeAny_handlers_suite ?_
          refine HandSPX.lands_againZ fl3 fun h4 fl4 up4 => ?_
          have J4 : Inv X pins σ' H' { s' with heap := h4 } := J.landed nb fl4.1 ((up.trans up3).trans up4) os ag
          obtain ⟨oe4, vs4, he4, hz4, hd4⟩ := fl4.there
          have S4 := inv_hold J4 he4 hz4 hd4 na nL n0 np
          refine wpAny_mono ((hsu a (X.pn ++ pins)).run [] _ _ _ _ S4 (hyes rfl J.len a na)) (fun f s6 hsp => ?_) (fun _ _ z => False.elim z)
          cases f with
          | next =>
            obtain ⟨σ6, H6, S6, q6⟩ := hsp
            exact ⟨_, _, inv_unhold S6 ok, q6⟩
          | brk =>
            obtain ⟨σ6, H6, S6, q6⟩ := hsp
            exact ⟨_, _, inv_unhold S6 ok, q6⟩
          | cont =>
            obtain ⟨σ6, H6, S6, q6⟩ := hsp
            exact ⟨_, _, inv_unhold S6 ok, q6⟩
          | ret u =>
            obtain ⟨v6, σ6, H6, S6, r6, q6⟩ := hsp
            exact ⟨_, _, _, inv_unhold S6 ok, r6, q6⟩
        | false =>
          show wpAny _ X.A (handleBy (.ref a) X.env hds2) _ _ _
          exact ih (hno rfl)
      | @cons x n c i ts b₀ suite np' pos' hds2 l2 hc hi hln hsu r ih =>
        intro w
        have hloc : Loc X.env.scope n := .inl hln
        obtain ⟨b, hb1, hyes, hno⟩ := w
        refine wpAny_handleBy_cons (codeAny_handlers_test ?_) (by intro q; cases q)
        have LM := PySem.W.exm_one (M := model X.prog X.w) (J3.kIn) LT hb1
        refine test hc (LM.here ?_)
        cases b with
        | true =>
          refine codeAny_handlers_suite_as ?_
          refine HandSPX.lands_againZ fl3 fun h4 fl4 up4 => ?_
          have J4 : Inv X pins σ' H' { s' with heap := h4 } := J.landed nb fl4.1 ((up.trans up3).trans up4) os ag
          obtain ⟨oe4, vs4, he4, hz4, hd4⟩ := fl4.there
          have S4 := inv_hold J4 he4 hz4 hd4 na nL n0 np
          refine store_ok (X := X.suite a (X.pn ++ pins)) (v := .ref a) S4 hN hi hloc rfl (fun s5 S5 => ?_) (.inr hln)
          refine wpAny_mono ((hsu a (X.pn ++ pins)).run [] s5 _ _ _ S5 (hyes rfl J.len a na)) (fun f s6 hsp => ?_) (fun _ _ z => False.elim z)
          have end_ : ∀ {σ6 : SL} {H6 : Hp} {Q : Shared → Prop}, Inv (X.suite a (X.pn ++ pins)) [] σ6 H6 s6 → (∀ s7, Inv X pins (σ6.set i none) H6 s7 → Q s7) →
              wpAny (model X.prog X.w) X.A (do bindName X.env n .none; unbindBehindTheSuite X.env n pos') (fun _ s7 => Q s7) X.xe s6 := fun {σ6 H6 Q} S6 hq => gone_ok (inv_unhold S6 ok) hN hi hln hq
          cases f with
          | next =>
            obtain ⟨σ6, H6, S6, q6⟩ := hsp
            exact end_ S6 fun s7 J7 => ⟨_, _, J7, q6⟩
          | brk =>
            obtain ⟨σ6, H6, S6, q6⟩ := hsp
            exact end_ S6 fun s7 J7 => ⟨_, _, J7, q6⟩
          | cont =>
            obtain ⟨σ6, H6, S6, q6⟩ := hsp
            exact end_ S6 fun s7 J7 => ⟨_, _, J7, q6⟩
          | ret u =>
            obtain ⟨v6, σ6, H6, S6, r6, q6⟩ := hsp
            exact end_ S6 fun s7 J7 => ⟨_, _, _, J7, r6, q6⟩
        | false =>
          show wpAny _ X.A (handleBy (.ref a) X.env hds2) _ _ _
          exact ih (hno rfl)
    exact go hh w
  · cases f with
    | next =>
      obtain ⟨σ', H', J', q⟩ := hsp
      exact wpAny_execs_nil ⟨σ', H', J'.ofTry ok, q⟩
    | brk =>
      obtain ⟨σ', H', J', q⟩ := hsp
      exact ⟨σ', H', J'.ofTry ok, q⟩
    | cont =>
      obtain ⟨σ', H', J', q⟩ := hsp
      exact ⟨σ', H', J'.ofTry ok, q⟩
    | ret u =>
      obtain ⟨v, σ', H', J', r, q⟩ := hsp
      exact ⟨v, σ', H', J'.ofTry ok, r, q⟩
end
end Mir

/-! exceptions: the mirrors of try, raise, isinstance of what was caught, its fields, defs that may raise -/
namespace Mir
open PySem PySem.Spec PyProof.Rows L2
/-! ### what the classes are to one another -/
/-- the class that a name tells -/
def ClV (mg : Str → Option Value) (y : Str) (D : Value) : Prop := mg y = some D ∨ (mg y = none ∧ bootBuiltins y = some D ∧ y ≠ "__name__")
theorem ClV.uniq {mg : Str → Option Value} {y : Str} {D D' : Value} (h : ClV mg y D) (h' : ClV mg y D') : D = D' := by
  rcases h with h | ⟨h, k, _⟩ <;> rcases h' with h' | ⟨h', k', _⟩
  · rw [h] at h'; exact Option.some.inj h'
  · rw [h] at h'; cases h'
  · rw [h] at h'; cases h'
  · rw [k] at k'; exact Option.some.inj k'
/-- isinstance of an exception of the class x, asked for y -/
def IsK (K : PySem.W.Frag) (mg : Str → Option Value) (x y : Str) (b : Bool) : Prop := ∀ C D, mg x = some C → ClV mg y D → PySem.W.kitOne K C D = some b
/-- except y, of an exception of the class x -/
def ExK (K : PySem.W.Frag) (mg : Str → Option Value) (x y : Str) (b : Bool) : Prop := ∀ C D, mg x = some C → ClV mg y D → PySem.W.exmOne K C D = some b
theorem exK_of {K : PySem.W.Frag} {mg : Str → Option Value} {x y : Str} {b : Bool} {C D : Value} (hC : mg x = some C) (hD : ClV mg y D) (h : PySem.W.exmOne K C D = some b) : ExK K mg x y b := fun C' D' h1 h2 => by
  rw [hC] at h1
  cases h1
  cases hD.uniq h2
  exact h
inductive AnyK (K : PySem.W.Frag) (mg : Str → Option Value) (x : Str) : List Str → Bool → Prop
  | nil : AnyK K mg x [] false
  | hit {y : Str} {ys : List Str} (h : IsK K mg x y true) : AnyK K mg x (y :: ys) true
  | miss {y : Str} {ys : List Str} {b : Bool} (h : IsK K mg x y false) (r : AnyK K mg x ys b) : AnyK K mg x (y :: ys) b
inductive ClVs (mg : Str → Option Value) : List Str → List Value → Prop
  | nil : ClVs mg [] []
  | cons {y : Str} {ys : List Str} {D : Value} {Ds : List Value} (h : ClV mg y D) (r : ClVs mg ys Ds) : ClVs mg (y :: ys) (D :: Ds)
theorem AnyK.kit {K : PySem.W.Frag} {mg : Str → Option Value} {x : Str} {ys : List Str} {b : Bool} (h : AnyK K mg x ys b) {C : Value} (hC : mg x = some C) : ∀ {Ds : List Value}, ClVs mg ys Ds → PySem.W.kitAny K C Ds = some b := by
  induction h with
  | nil => intro Ds hd; cases hd; rfl
  | hit h =>
    intro Ds hd
    cases hd with
    | cons h1 r =>
      unfold PySem.W.kitAny
      rw [h _ _ hC h1]
  | miss h _ ih =>
    intro Ds hd
    cases hd with
    | cons h1 r =>
      unfold PySem.W.kitAny
      rw [h _ _ hC h1]
      exact ih r
def TblE (K : PySem.W.Frag) (mg : Str → Option Value) (y : Str) (tb : List (Str × Bool)) : Prop := ∀ x b, tb.lookup x = some b → ExK K mg x y b
theorem tblE_nil {K : PySem.W.Frag} {mg : Str → Option Value} {y : Str} : TblE K mg y [] := fun _ _ h => by cases h
theorem tblE_cons {K : PySem.W.Frag} {mg : Str → Option Value} {y : Str} {x : Str} {b : Bool} {tb : List (Str × Bool)} (h : ExK K mg x y b) (r : TblE K mg y tb) : TblE K mg y ((x, b) :: tb) := fun z c e => by
  rw [List.lookup_cons] at e
  split at e
  · rename_i q
    cases e
    rw [beq_iff_eq.mp q]
    exact h
  · exact r z c e
/-! ### try -/
structure HdlM where
  tb : List (Str × Bool)
  i : Option Nat
  cs : SM
def offE : Option Nat → Env' → Env'
  | none, η => η
  | some i, η => η.set i none
def putE (n : Nat) (r : Nat) : Option Nat → Env'
  | none => List.replicate n none
  | some i => (List.replicate n none).set i (some (.ref r))
/-- behind an except suite: its name goes; it may raise nothing -/
def offS (o : Option Nat) : RS → RS
  | .nxt η m => .nxt (offE o η) m
  | .ret d m => .ret d m
  | .brk η m => .brk (offE o η) m
  | .cnt η m => .cnt (offE o η) m
  | .exc _ _ => .stk
  | .stk => .stk
def mHds (n : Nat) : List HdlM → Exn → Mem → RS
  | [], x, m => .exc x m
  | h :: r, x, m => match h.tb.lookup x.cls with
    | some true => offS h.i (h.cs (putE n m.length h.i) (m ++ [.exc x.cls x.fs]))
    | some false => mHds n r x m
    | none => .stk
def RS.catch (r : RS) (f : Exn → Mem → RS) : RS := match r with
  | .exc x m => f x m
  | r => r
@[simp] theorem catch_nxt (η : Env') (m : Mem) (f : Exn → Mem → RS) : (RS.nxt η m).catch f = .nxt η m := nr rfl
@[simp] theorem catch_ret (d : D) (m : Mem) (f : Exn → Mem → RS) : (RS.ret d m).catch f = .ret d m := nr rfl
@[simp] theorem catch_brk (η : Env') (m : Mem) (f : Exn → Mem → RS) : (RS.brk η m).catch f = .brk η m := nr rfl
@[simp] theorem catch_cnt (η : Env') (m : Mem) (f : Exn → Mem → RS) : (RS.cnt η m).catch f = .cnt η m := nr rfl
@[simp] theorem catch_exc (x : Exn) (m : Mem) (f : Exn → Mem → RS) : (RS.exc x m).catch f = f x m := nr rfl
@[simp] theorem catch_stk (f : Exn → Mem → RS) : RS.stk.catch f = .stk := nr rfl
def mTry (n : Nat) (body : SM) (hs : List HdlM) : SM := fun η m => (body η m).catch (mHds n hs)
section
variable {X : Cx} {E : XK}
inductive HdsM (X : Cx) : List ExceptHandler → List HdlM → List Hdl → Prop
  | nil : HdsM X [] [] []
  | cons0 {x : Str} {c : Value} {tb : List (Str × Bool)} {cs : SM} {b₀ : Stmt} {suite : List Stmt} {np pos' : Pos} {hds : List ExceptHandler} {l : List HdlM} {l' : List Hdl} (hg : Gl X x) (hd : (x == ("__debug__" : Str)) = false) (hc : ClV X.mg x c)
      (ht : TblE X.K X.mg x tb) (hsu : ∀ (a : Addr) (pn : List (Addr × Obj)), MSs (X.suite a pn) E0 (b₀ :: suite) cs) (r : HdsM X hds l l') :
      HdsM X (.ExceptHandler (some (.Name x np)) none (b₀ :: suite) pos' :: hds) (⟨tb, none, cs⟩ :: l) (⟨c, none, rdS X.K X.mg E0 cs⟩ :: l')
  | cons {x n : Str} {c : Value} {i : Nat} {tb : List (Str × Bool)} {cs : SM} {b₀ : Stmt} {suite : List Stmt} {np pos' : Pos} {hds : List ExceptHandler} {l : List HdlM} {l' : List Hdl} (hg : Gl X x) (hd : (x == ("__debug__" : Str)) = false) (hc : ClV X.mg x c)
      (hi : X.N[i]? = some n) (hln : X.env.kindOf n = some .local) (ht : TblE X.K X.mg x tb) (hsu : ∀ (a : Addr) (pn : List (Addr × Obj)), MSs (X.suite a pn) E0 (b₀ :: suite) cs) (r : HdsM X hds l l') :
      HdsM X (.ExceptHandler (some (.Name x np)) (some n) (b₀ :: suite) pos' :: hds) (⟨tb, some i, cs⟩ :: l) (⟨c, some i, rdS X.K X.mg E0 cs⟩ :: l')
theorem HdsM.hold {hds : List ExceptHandler} {l : List HdlM} {l' : List Hdl} (h : HdsM X hds l l') : HdsH X hds l' := by
  induction h with
  | nil => exact .nil
  | cons0 hg hd hc ht hsu r ih => exact .cons0 ⟨hg, hd, hc⟩ hsu ih
  | cons hg hd hc hi hln ht hsu r ih => exact .cons ⟨hg, hd, hc⟩ hi hln hsu ih
theorem renv_off {K : PySem.W.Frag} {W : Wd} {H : Hp} {η : Env'} {σ : SL} {i : Nat} (h : REnv K W H η σ) : REnv K W H (η.set i none) (σ.set i none) := by
  refine ⟨by rw [List.length_set, List.length_set]; exact h.1, fun j d e => ?_⟩
  by_cases q : i = j
  · subst q
    rw [List.getElem?_set] at e
    split at e
    · split at e <;> cases e
    · rename_i z; exact absurd rfl z
  · rw [List.getElem?_set_ne q] at e
    rw [List.getElem?_set_ne q]
    exact h.2 j d e
theorem renv_put {K : PySem.W.Frag} {W : Wd} {H : Hp} {σ : SL} {n r : Nat} {a : Addr} (hl : σ.length = n) (h : Rep K W H (.ref r) (.ref a)) : ∀ o : Option Nat, REnv K W H (putE n r o) (Hdl.put σ a o)
  | none => ⟨by simp [putE, Hdl.put, hl], fun j d e => by
      simp only [putE, List.getElem?_replicate] at e
      split at e <;> cases e⟩
  | some i => ⟨by simp [putE, Hdl.put, hl], fun j d e => by
      simp only [putE] at e
      by_cases q : i = j
      · subst q
        by_cases hi : i < n
        · rw [List.getElem?_set_self (by simpa using hi)] at e
          cases e
          exact ⟨.ref a, by simp only [Hdl.put]; rw [List.getElem?_set_self (by omega)], h⟩
        · rw [List.getElem?_eq_none (by simpa using hi)] at e
          cases e
      · rw [List.getElem?_set_ne q, List.getElem?_replicate] at e
        split at e <;> cases e⟩
theorem postS_off {K : PySem.W.Frag} {mg : Str → Option Value} {W : Wd} {H : Hp} {Dn : Ends} (o : Option Nat) {r : RS} (h : PostS K mg E W H Dn (offS o r)) : PostS K mg E0 W H (Hdl.ends Dn o) r := by
  cases r with
  | nxt η m =>
    cases o with
    | none => exact h
    | some i => exact fun σ W' H' e s n => h (σ.set i none) W' H' e s (renv_off n)
  | ret d m =>
    cases o with
    | none => exact h
    | some i => exact h
  | brk η m =>
    cases o with
    | none => exact h
    | some i => exact fun σ W' H' e s n => h (σ.set i none) W' H' e s (renv_off n)
  | cnt η m =>
    cases o with
    | none => exact h
    | some i => exact fun σ W' H' e s n => h (σ.set i none) W' H' e s (renv_off n)
  | exc x m => exact h.elim
  | stk => exact h.elim
theorem post_hds {n : Nat} {Dn : Ends} {x : Exn} {hds : List ExceptHandler} {l : List HdlM} {l' : List Hdl} (h : HdsM X hds l l') :
    ∀ {W : Wd} {H : Hp} {m : Mem}, Sim X.K X.mg W H m → PostS X.K X.mg E W H Dn (mHds n l x m) → ∀ c o, ExR X.K X.mg x W H c o → ∀ σ : SL, σ.length = n → wHold X.K n (fun c d _ H => E c d H) Dn l' c o σ H := by
  intro W H m s p c o hx σ hl
  have suite : ∀ {i : Option Nat} {cs : SM} {a : Addr}, H a = none → PostS X.K X.mg E W H Dn (offS i (cs (putE n m.length i) (m ++ [.exc x.cls x.fs]))) → rdS X.K X.mg E0 cs (Hdl.ends Dn i) (Hdl.put σ a i) (upd H a (ExH c o a)) := fun {i cs a} na p => by
    have ex : Ext W H (W.add a) (upd H a (ExH c o a)) := Ext.alloc na (s.ninz na)
    have hr : Rep X.K (W.add a) (upd H a (ExH c o a)) (.ref m.length) (.ref a) := rep_ref (by
      show (W.i ++ [a])[m.length]? = some a
      rw [← s.len, List.getElem?_append_right (Nat.le_refl _), Nat.sub_self]
      rfl)
    exact ⟨W.add a, _, _, s.alloc (c := .exc x.cls x.fs) na ⟨c, o, hx.1, upd_same, hx.2.ext ex⟩, renv_put hl hr i, postS_off i (PostS.ext ex p)⟩
  induction h with
  | nil => exact p c o W H (Ext.refl _ _) s hx
  | @cons0 x' cv tb cs b₀ su np pos' hds l l' hg hd hc ht hsu r ih =>
    unfold mHds at p
    cases hk : tb.lookup x.cls with
    | none => rw [hk] at p; exact p.elim
    | some b =>
      rw [hk] at p
      refine ⟨b, ht _ _ hk _ _ hx.1 hc, fun e => ?_, fun e => ?_⟩
      · subst e
        exact fun _ a na => suite na p
      · subst e
        exact ih p
  | @cons x' nn cv i tb cs b₀ su np pos' hds l l' hg hd hc hi hln ht hsu r ih =>
    unfold mHds at p
    cases hk : tb.lookup x.cls with
    | none => rw [hk] at p; exact p.elim
    | some b =>
      rw [hk] at p
      refine ⟨b, ht _ _ hk _ _ hx.1 hc, fun e => ?_, fun e => ?_⟩
      · subst e
        exact fun _ a na => suite na p
      · subst e
        exact ih p
theorem ms_try {body : List Stmt} {h₀ : ExceptHandler} {hds : List ExceptHandler} {l : List HdlM} {l' : List Hdl} {pos : Pos} {cb : SM} {n : Nat} (hs : X.stack = X.env :: X.outer) (hf : X.env.frame = some X.env.locals) (hex : X.ex = []) (hN : X.N.Nodup) (hn : X.N.length = n)
    (tk : Takes X (fun c d _ H => E c d H))
    (hb : ∀ (E1 : XK) (pn : List (Addr × Obj)) (xe : Value → Shared → Prop), Takes (X.tr pn xe) (fun c d _ H => E1 c d H) → PassesOwn (model X.prog X.w) X.A X.env xe → MSs (X.tr pn xe) E1 body cb)
    (hh : HdsM X (h₀ :: hds) l l') : MS X E (.Try body (h₀ :: hds) [] [] pos) (mTry n cb l) := by
  refine (ps_try_hold (tb := fun W => rdS X.K X.mg (fun c d H => ∀ σ : SL, σ.length = X.N.length → W c d σ H) cb) hs hf hex hN tk (fun W pn xe tw po => hb _ pn xe (fun u s' xx => ?_) po) hh.hold).imp fun Dn σ H ⟨W, η, m, s, r, p⟩ => ⟨W, η, m, s, r, ?_⟩
  · obtain ⟨a, B, sI, pins, σ, H, cls, d, e, I, nb, up, sky, na, os, ag, w⟩ := xx
    exact tw _ _ ⟨a, B, sI, pins, σ, H, cls, d, e, I, nb, up, sky, na, os, ag, w σ I.len⟩
  · have p : PostS X.K X.mg E W H Dn ((cb η m).catch (mHds n l)) := p
    revert p
    generalize cb η m = res
    intro p
    cases res with
    | nxt η' m' => exact p
    | ret d m' => exact p
    | brk η' m' => exact p
    | cnt η' m' => exact p
    | stk => exact p.elim
    | exc x m' =>
      intro c o W' H' e s' hx σ' hl
      rw [hn] at hl ⊢
      exact post_hds hh s' (PostS.ext e p) c o hx σ' hl
/-! ### defs that may raise -/
def spX (K : PySem.W.Frag) (mg : Str → Option Value) (fm : FM) : Sp := fun vs H Q E => ∃ W m ds, Sim K mg W H m ∧ Reps K W H ds vs ∧ Post K mg E (Rep K) W H Q (fm ds m)
end
section
variable {P : Program} {w : World} {K : PySem.W.Frag} {mg : Str → Option Value} {base : Heap}
theorem fn_okX {x qual : Str} {st : Stmt} {f : Addr} {fd : FuncData} {N ps : List Str} {k : Nat} {body : SM} (F : Fun K x qual st f fd) (S : FnScope N ps (defScope st))
    (h : ∀ (cdv : Value) (A : Around) (outer : List Env) (s : Shared) (H : Hp) (E : XK), Room k (A.deeper (envOfC qual (defScope st) s.heap.objs.size f cdv)) →
      Takes (cxOf (L2.CX P w) P w K mg base N qual (defScope st) f cdv A outer s H E) (fun c d _ H => E c d H) → PassesOwn (model P w) (A.deeper (envOfC qual (defScope st) s.heap.objs.size f cdv)) (envOfC qual (defScope st) s.heap.objs.size f cdv) (cxOf (L2.CX P w) P w K mg base N qual (defScope st) f cdv A outer s H E).xe →
      MSs (cxOf (L2.CX P w) P w K mg base N qual (defScope st) f cdv A outer s H E) E (defBody st) body) :
    FnOk P w K mg base (L2.CX P w) (k + 1) f fd ps (spX K mg (mFn ps.length N.length body)) := by
  have hlen : ∀ {vs H Q E}, spX K mg (mFn ps.length N.length body) vs H Q E → vs.length = ps.length := fun {vs H Q E} ⟨W, m, ds, s, r, p⟩ => by
    unfold mFn at p
    split at p
    · rename_i hl
      rw [r.length]
      exact hl
    · exact p.elim
  refine F.okX S (fun vs H Q E q => hlen q) (fun cdv A outer s H vs Q E hr q => ?_)
  have hl := hlen q
  obtain ⟨W, m, ds, sm, r, p⟩ := q
  refine ⟨_, h cdv A outer s H E hr (takes_of rfl rfl rfl rfl) (passes_of rfl), W, ds.map some ++ List.replicate (N.length - ds.length) none, m, sm, renv_start r, ?_⟩
  unfold mFn at p
  rw [if_pos (by rw [← r.length]; exact hl)] at p
  revert p
  generalize body (ds.map some ++ List.replicate (N.length - ds.length) none) m = res
  intro p
  cases res with
  | nxt η m' => exact fun σ W' H' e s n => p .non W' H' e s rep_non
  | ret d m' => exact fun v W' H' e s n => p v W' H' e s n
  | exc x m' => exact p
  | brk η m' => exact p.elim
  | cnt η m' => exact p.elim
  | stk => exact p.elim
structure FnX (P : Program) (w : World) (K : PySem.W.Frag) (mg : Str → Option Value) (base : Heap) (k : Nat) (x : Str) (ps : List Str) (fm : FM) : Prop where
  ex : ∃ f fd, mg x = some (.ref f) ∧ PySem.W.keepIn K (.ref f) = true ∧ Binds K fd ps [] ∧ FnOk P w K mg base (L2.CX P w) k f fd ps (spX K mg fm)
end
def mCallX (fm : FM) (a : AM) : EM := fun η m => (a η m).bind fun xs m1 => fm xs m1
section
variable {X : Cx} {E : XK} {k : Nat} {x : Str} {ps : List Str} {fm : FM} {p pos : Pos} {e : Expr} {es : List Expr} {ca : AM}
theorem me_callX (F : FnX X.prog X.w X.K X.mg X.base k x ps fm) (tk : Takes X (fun c d _ H => E c d H)) (hr : Room k X.A) (hg : Gl X x) (ha : MA X E (e :: es) ca) (hdb : (x == ("__debug__" : Str)) = false := by decide) (he : starEach (e :: es) X.env = (false, eval e X.env) :: starEach es X.env := by rfl) (hpl : (backTo pos (starEach es X.env)).any (·.1) = false := by rfl) :
    MEx X E (.Call (.Name x p) (e :: es) [] pos) (mCallX fm ca) := by
  obtain ⟨f, fd, h1, h2, h3, h4⟩ := F.ex
  refine (pe_call (E := E) h4 hr hg h1 h2 h3 .nil (passes_call tk fun _ _ _ _ h => h) ha hdb he hpl).imp fun σ H Q ⟨W, η, m, s, n, p⟩ => ?_
  refine ⟨W, η, m, s, n, (Post.bind (Rl := Reps X.K) p).imp fun xs H1 ⟨W1, ds, m1, e1, s1, r1, p1⟩ => ?_⟩
  exact ⟨W1, m1, ds, s1, by rw [List.append_nil]; exact r1, p1⟩
end
end Mir

/-! exceptions: raise of an own class, whose __init__ is walked; isinstance of what was caught; its fields -/
namespace Mir
open PySem PySem.Spec PyProof.Rows L2
/-! ### Base.__init__(self, text), Base an own class over ValueError -/
structure LoomC (K : PySem.W.Frag) (B : Addr) : Prop where
  sp : PySem.W.specialIn K (.ref B) "__getattribute__" = some (some (.builtin "type.__getattribute__"))
  ty : PySem.W.typeIn K (.ref B) = some (.type "type")
  rd : PySem.W.readsIn K B (.type "type") = true
  fc : PySem.W.findCls K (.ref B) (.type "type") "__init__" = some (.val (.builtin "ValueError.__init__"))
section
variable {X : Cx} {e : Expr} {es : List Expr} {ta : TA} {p1 p2 pos : Pos} {x : Str} {B : Addr}
theorem pe_linit {pl : Sem Bool} (hg : Gl X x) (hm : X.mg x = some (.ref B)) (LB : LoomC X.K B) (ha : PA X (e :: es) ta) (hdb : (x == ("__debug__" : Str)) = false := by decide)
    (hc : eval (.Call (.Attribute (.Name x p1) "__init__" p2) (e :: es) [] pos) X.env = (do
      let ov ← eval (.Name x p1) X.env
      standAt p2.atName
      let (f, first) ← holding [ov] (getMethod ov "__init__" pl)
      callWith pos f first (backTo pos (starEach (e :: es) X.env)) (backToKw pos (keywordEach [] X.env))) := by rfl)
    (he : starEach (e :: es) X.env = (false, eval e X.env) :: starEach es X.env := by rfl) (hpl : (backTo pos (starEach es X.env)).any (·.1) = false := by rfl) :
    PE X (.Call (.Attribute (.Name x p1) "__init__" p2) (e :: es) [] pos) (tVeI X.K ta) := by
  refine ⟨fun pins s σ H Q I h => ?_⟩
  refine PySem.W.methodCall_KW (ld_glob I hg hm ?_ hdb) hc
  obtain ⟨m, fr⟩ := I.fr
  refine PySem.W.method_of_cls fr I.ok.mod.kin LB.sp (PySem.W.cls_val fr I.ok.mod.kin LB.ty LB.rd LB.fc (by decide +kernel) ?_)
  show wpAny _ _ (callWith pos (Value.builtin "ValueError.__init__") [] (backTo pos (starEach (e :: es) X.env)) []) _ _ _
  refine PyProof.Rows.callWith_method1 (thn (ha.run pos pins _ σ H _ (I.tok _) h) fun us s1 ⟨vs, H1, I1, r1, a, C, ws, ev, hl, T, ea, q⟩ => ?_) he hpl
  subst ev
  cases r1 with
  | @cons _ u0 _ ur ra rw' =>
    obtain rfl : u0 = Value.ref a := ra
    have hlen : ur.length ≤ sizeLine := by
      rw [← Paired.length rw', sizeLine_eq]
      omega
    exact oinit_ok T I1 ea hlen fun s' J => ⟨.non, H1, J, rfl, q⟩
end
/-! ### __init__ of one and of two fields -/
def spI1 (K : PySem.W.Frag) (f1 : Str) : Sp := fun vs H Q _ => ∃ a C y, vs = [.ref a, y] ∧ OexC K C ∧ PySem.W.findIn K (.ref C) f1 = some none ∧ H a = some (exo a C none) ∧
  ∀ dx, H dx = none → dx ≠ a → Q .non (upd (upd H dx (exd dx [(f1, y)])) a (exo a C (some dx)))
section
variable {P : Program} {w : World} {K : PySem.W.Frag} {mg : Str → Option Value} {base : Heap}
theorem init1_ok {x qual f1 s1 a1 tx : Str} {st : Stmt} {f : Addr} {fd : FuncData} (F : Fun K x qual st f fd) (S : FnScope [s1, a1] [s1, a1] (defScope st))
    (h : ∀ (cdv : Value) (A : Around) (outer : List Env) (s : Shared) (H : Hp) (E : XK), PSs (cxOf CX0 P w K mg base [s1, a1] qual (defScope st) f cdv A outer s H E).nox (defBody st)
      (tSeq (tDrop (tVeI K (tCons (tVar 0) (tCons (tC (.str tx)) tNil)))) (tSeq (tOst K f1 (tVar 0) (tVar 1)) tNext))) : FnOk P w K mg base CX0 (0 + 1) f fd [s1, a1] (spI1 K f1) := by
  refine F.ok S (fun vs H Q E ⟨a, C, y, e, _⟩ => by rw [e]; rfl) fun cdv A outer s H vs Q E hr q => ⟨_, h cdv A outer s H E, ?_⟩
  obtain ⟨a, C, y, rfl, T, hno, ha, q⟩ := q
  exact ⟨.ref a, rfl, a, C, [.str tx], rfl, by simp, T, ha, y, rfl, .ref a, rfl, a, C, rfl, T, hno, .inl ⟨ha, fun dx n1 n2 => q dx n1 n2⟩⟩
end
/-! ### making and raising -/
/-- the class x makes exceptions of the fields fl (the last one stored first) by its own __init__ -/
structure XMk (P : Program) (w : World) (K : PySem.W.Frag) (mg : Str → Option Value) (base : Heap) (x : Str) (fl : List Str) : Prop where
  ex : ∃ (C fI : Addr) (fd : FuncData) (ps : List Str) (sp : Sp), mg x = some (.ref C) ∧ OexC K C ∧ PySem.W.findIn K (.ref C) "__init__" = some (some (.ref fI)) ∧ PySem.W.typeIn K (.ref fI) = some (.type "function") ∧ FnOk P w K mg base CX0 1 fI fd ps sp ∧ Binds K fd ps [] ∧
    ∀ (a : Addr) (vs : List V) (H : Hp) (Q : VK) (E : XK), vs.length = fl.length → H a = some (exo a C none) →
      (∀ dx, H dx = none → dx ≠ a → ∀ H2, H2 a = some (exo a C (some dx)) → H2 dx = some (exd dx (fl.zip vs).reverse) → (∀ b, b ≠ a → b ≠ dx → H2 b = H b) → Q .non H2) → sp (.ref a :: vs) H Q E
section
variable {P : Program} {w : World} {K : PySem.W.Frag} {mg : Str → Option Value} {base : Heap}
theorem xmk1 {x f1 : Str} {C fI : Addr} {fd : FuncData} {ps : List Str} (hm : mg x = some (.ref C)) (T : OexC K C) (hi : PySem.W.findIn K (.ref C) "__init__" = some (some (.ref fI))) (ht : PySem.W.typeIn K (.ref fI) = some (.type "function"))
    (F : FnOk P w K mg base CX0 (0 + 1) fI fd ps (spI1 K f1)) (B : Binds K fd ps []) (hno : PySem.W.findIn K (.ref C) f1 = some none) : XMk P w K mg base x [f1] :=
  ⟨C, fI, fd, ps, _, hm, T, hi, ht, F, B, fun a vs H Q E hl ha q => by
    match vs, hl with
    | [y], _ =>
      refine ⟨a, C, y, rfl, T, hno, ha, fun dx n1 n2 => q dx n1 n2 _ upd_same (by rw [upd_ne n2, upd_same]; rfl) fun b h1 h2 => by rw [upd_ne h1, upd_ne h2]⟩⟩
end
def mRaise (x : Str) (fl : List Str) (a : AM) : SM := fun η m => (a η m).toS fun ds m1 => if ds.length = fl.length then .exc ⟨x, (fl.zip ds).reverse⟩ m1 else .stk
theorem reps_zip {K : PySem.W.Frag} {W : Wd} {H : Hp} {fl : List Str} {ds : List D} {vs : List V} (r : Reps K W H ds vs) (hl : ds.length = fl.length) :
    ((fl.zip vs).reverse.map (·.1)) = ((fl.zip ds).reverse.map (·.1)) ∧ Reps K W H ((fl.zip ds).reverse.map (·.2)) ((fl.zip vs).reverse.map (·.2)) := by
  have hv := r.length
  have e1 : (fl.zip vs).map (·.1) = fl := by rw [List.map_fst_zip (by omega)]
  have e2 : (fl.zip ds).map (·.1) = fl := by rw [List.map_fst_zip (by omega)]
  have e3 : (fl.zip vs).map (·.2) = vs := by rw [List.map_snd_zip (by omega)]
  have e4 : (fl.zip ds).map (·.2) = ds := by rw [List.map_snd_zip (by omega)]
  refine ⟨by rw [List.map_reverse, List.map_reverse, e1, e2], ?_⟩
  rw [List.map_reverse, List.map_reverse, e3, e4]
  exact r.reverse
section
variable {X : Cx} {E : XK} {x : Str} {fl : List Str} {p pos pos' : Pos} {e : Expr} {es : List Expr} {ca : AM}
theorem ms_raise (M : XMk X.prog X.w X.K X.mg X.base x fl) (h0 : fl ≠ []) (hc : X.calm = true) (tk : Takes X (fun c d _ H => E c d H)) (hr : Room 2 X.A) (hg : Gl X x) (hf : fl.length ≤ 100) (ha : MA X E (e :: es) ca)
    (hdb : (x == ("__debug__" : Str)) = false := by decide) (he : starEach (e :: es) X.env = (false, eval e X.env) :: starEach es X.env := by rfl) (hpl : (backTo pos (starEach es X.env)).any (·.1) = false := by rfl) :
    MS X E (.Raise (some (.Call (.Name x p) (e :: es) [] pos)) none pos') (mRaise x fl ca) := by
  obtain ⟨C, fI, fd, ps, sp, hm, T, hi, ht, F, B, hsp⟩ := M.ex
  refine (ps_raise hc tk (pmk_oex (dvs := []) T hi ht F hr B .nil pass0 hg hm ha hdb he hpl)).imp fun Dn σ H ⟨W, η, m, s, n, p⟩ => ?_
  refine ⟨W, η, m, s, n, (PostS.bind (Rl := Reps X.K) p).imp fun vs H1 ⟨W1, ds, m1, e1, s1, r1, p1⟩ => ?_⟩
  have hv := r1.length
  split at p1
  · rename_i hl
    refine ⟨by omega, fun a na => ?_⟩
    rw [List.append_nil]
    refine hsp a vs _ _ _ (by omega) upd_same fun dx n1 n2 H2 q1 q2 q3 => ⟨rfl, dx, _, q1, q2, ?_, ?_⟩
    · rw [upd_ne n2] at n1
      exact n1
    · have nd : H1 dx = none := by rw [upd_ne n2] at n1; exact n1
      have eH : upd (del H2 a) dx (.xd (fl.zip vs).reverse) = upd H1 dx (.xd (fl.zip vs).reverse) := by
        funext b
        by_cases hb : b = dx
        · rw [hb, upd_same, upd_same]
        · rw [upd_ne hb, upd_ne hb]
          by_cases hb2 : b = a
          · rw [hb2, del_same, na]
          · rw [del_ne hb2, q3 b hb2 hb, upd_ne hb2]
      rw [eH]
      have ex : Ext W1 H1 W1 (upd H1 dx (.xd (fl.zip vs).reverse)) := Ext.fresh nd
      obtain ⟨z1, z2⟩ := reps_zip r1 hl
      exact p1 (.ref C) (some dx) W1 _ ex (s1.fresh nd) ⟨hm, .inr ⟨dx, _, rfl, ⟨upd_same, s1.nin nd, s1.ninz nd⟩, z1, z2.ext ex⟩⟩
  · exact p1.elim
end
end Mir

/-! exceptions: what was caught is asked for its fields and its class -/
namespace Mir
open PySem PySem.Spec PyProof.Rows L2
/-- what is wanted of the class of an exception that is asked -/
structure XKl (K : PySem.W.Frag) (C : Addr) : Prop where
  cl : (PySem.W.clsIn K C).isSome = true
  ga : PySem.W.findIn K (.ref C) "__getattribute__" = some (some (.builtin "BaseException.__getattribute__"))
  gg : PySem.W.findIn K (.ref C) "__getattr__" = some none
  sub : PySem.W.subIn K (.ref C) (.type "BaseException") = some true
  hd : PySem.W.hasDictIn K C = true
  ca : PySem.W.findIn K (.ref C) "__class__" = some (some (.builtin "object.__class__"))
  cn : PySem.W.specialIn K (.builtin "object.__class__") "__get__" = some (some (.builtin "getset_descriptor.__get__"))
  ct : PySem.W.takesIn K (.builtin "object.__class__") = some true
  cm : PySem.W.mroIn K C (.type "object") = some true
def XIn (K : PySem.W.Frag) (mg : Str → Option Value) (x : Str) : Prop := ∃ C, mg x = some (.ref C) ∧ XKl K C
def XFld (K : PySem.W.Frag) (mg : Str → Option Value) (x f : Str) : Prop := ∃ C, mg x = some (.ref C) ∧ XfC K C ∧ PySem.W.findIn K (.ref C) f = some none
def excOf (m : Mem) : D → Option Exn
  | .ref i => match m[i]? with
    | some (.exc c fs) => some ⟨c, fs⟩
    | _ => none
  | _ => none
def mXf (cs : List Str) (f : Str) (c : EM) : EM := fun η m => (c η m).bind fun x m1 => match excOf m1 x with
  | some e => if cs.contains e.cls = true then (match e.fs.lookup f with
    | some d => .ok d m1
    | none => .stk) else .stk
  | none => .stk
section
variable {K : PySem.W.Frag} {mg : Str → Option Value} {W : Wd} {H : Hp}
theorem lookup_map {α β : Type} {f : Str} : ∀ {fs : List (Str × α)} {gs : List (Str × β)} {R : α → β → Prop}, gs.map (·.1) = fs.map (·.1) → (∀ (i : Nat) (x : α), (fs.map (·.2))[i]? = some x → ∃ y, (gs.map (·.2))[i]? = some y ∧ R x y) → ∀ {d : α}, fs.lookup f = some d → ∃ v, gs.lookup f = some v ∧ R d v
  | [], gs, R, h1, h2, d, e => by cases e
  | (a, x) :: fs, [], R, h1, h2, d, e => by cases h1
  | (a, x) :: fs, (b, y) :: gs, R, h1, h2, d, e => by
    simp only [List.map_cons, List.cons.injEq] at h1
    obtain ⟨rfl, h1⟩ := h1
    rw [List.lookup_cons] at e ⊢
    cases q : (f == b) with
    | true =>
      rw [q] at e
      cases e
      obtain ⟨y', e1, e2⟩ := h2 0 x rfl
      have e1 : some y = some y' := e1
      cases e1
      exact ⟨y, rfl, e2⟩
    | false =>
      rw [q] at e
      exact lookup_map h1 (fun i z hz => h2 (i + 1) z hz) e
theorem exc_at {m : Mem} {d : D} {v : V} {e : Exn} (s : Sim K mg W H m) (r : Rep K W H d v) (h : excOf m d = some e) : ∃ a C o, v = .ref a ∧ mg e.cls = some C ∧ H a = some (ExH C o a) ∧ XFs K W H e.fs o := by
  cases d with
  | ref i =>
    obtain ⟨a, rfl, e2⟩ := r.ref'
    simp only [excOf] at h
    cases hm : m[i]? with
    | none => rw [hm] at h; cases h
    | some c =>
      rw [hm] at h
      have q := s.cell i a c e2 hm
      cases c with
      | exc c fs =>
        cases h
        obtain ⟨C, o, q1, q2, q3⟩ := q
        exact ⟨a, C, o, rfl, q1, q2, q3⟩
      | _ => cases h
  | _ => cases h
end
section
variable {X : Cx} {E : XK} {e : Expr} {c : EM} {pos p p2 pt : Pos} {f : Str}
theorem me_xf {cs : List Str} (hx : ∀ x, cs.contains x = true → XFld X.K X.mg x f) (he : MEx X E e c) (hb : attributeBase e f X.env (eval e X.env) = eval e X.env := by rfl) : MEx X E (.Attribute e f pos) (mXf cs f c) := by
  refine ⟨fun pins s σ H Q I h => ?_⟩
  obtain ⟨W, η, m, sm, n, p⟩ := h
  refine attr_of hb (thn (he.run pins s σ H _ I ⟨W, η, m, sm, n, Post.bind (Rl := Rep X.K) p⟩) fun u s1 ⟨v, H1, I1, rx, W1, d, m1, e1, s1', r1, p1⟩ => ?_)
  cases hex : excOf m1 d with
  | none => rw [hex] at p1; exact p1.elim
  | some ee =>
    rw [hex] at p1
    dsimp only at p1
    split at p1
    · rename_i hc
      cases hl : ee.fs.lookup f with
      | none => rw [hl] at p1; exact p1.elim
      | some dv =>
        rw [hl] at p1
        obtain ⟨a, C', o, rfl, q1, q2, q3⟩ := exc_at s1' r1 hex
        obtain ⟨C, g1, T, hno⟩ := hx _ hc
        rw [q1] at g1
        cases g1
        obtain rfl : u = Value.ref a := rx
        obtain ⟨oe, vs, ha, hz, hd⟩ := exH_at I1.hok q2
        rcases q3 with ⟨z, _⟩ | ⟨dd, gs, rfl, ⟨hdd, _, _⟩, hn, hr⟩
        · rw [z] at hl; cases hl
        · obtain ⟨v', hv', rv'⟩ := lookup_map (R := fun d v => Rep X.K W1 H1 d v) hn (fun i x hx => hr.get hx) hl
          have hxd : ObjOk X.prog X.w H1 s1.heap dd (.xd gs) := I1.hok dd _ hdd
          obtain ⟨mA, hns, hrl⟩ := hxd
          obtain ⟨od, ho, hlk⟩ := lookIn_ns hns
          obtain ⟨u', hu, ru⟩ := RelO.some_of (v := v') (o := mA f) (by rw [← hv']; exact hrl f)
          have J : PySem.W.InstAt s1.heap a oe C (some od) := ⟨ha, hz.1, by unfold PySem.W.notCls; rw [hd] <;> rfl, by rw [hz.2]; exact ho⟩
          exact HandSPX.exc_get I1.kIn J T.ga T.gg T.exC (PySem.W.findObj_own T.hdC hno rfl (by rw [hlk, hu])) (handed_of ru) ⟨v', H1, I1.tok _, ru, p1.now s1' rv'⟩
    · exact p1.elim
/-! ### isinstance -/
theorem all_nil' {P : Str → Prop} : ∀ x : Str, ([] : List Str).contains x = true → P x := fun _ h => by cases h
theorem all_cons' {P : Str → Prop} {y : Str} {ys : List Str} (h : P y) (r : ∀ x, ys.contains x = true → P x) : ∀ x : Str, (y :: ys).contains x = true → P x := fun x e => by
  rw [List.contains_cons] at e
  cases q : (x == y) with
  | true => rw [beq_iff_eq.mp q]; exact h
  | false => rw [q] at e; exact r x e
/-- a class in an isinstance: its name may be read, its value is one -/
structure ClsE (X : Cx) (y : Str) (v : V) (D : Value) : Prop where
  pe : ∀ p : Pos, PE X (.Name y p) (tC v)
  rel : ∀ u, RelV v u → u = D
  cl : ClV X.mg y D
/-- the names of a tuple of classes -/
inductive ClsT (X : Cx) : List Expr → List Str → List V → List Value → Prop
  | nil : ClsT X [] [] [] []
  | cons {y : Str} {v : V} {D : Value} {p : Pos} {es : List Expr} {ys : List Str} {vs : List V} {Ds : List Value} (h : ClsE X y v D) (r : ClsT X es ys vs Ds) (hs : starEach (.Name y p :: es) X.env = (false, eval (.Name y p) X.env) :: starEach es X.env) :
      ClsT X (.Name y p :: es) (y :: ys) (v :: vs) (D :: Ds)
theorem ClsT.pa {es : List Expr} {ys : List Str} {vs : List V} {Ds : List Value} (h : ClsT X es ys vs Ds) : PA X es (fun σ H Q => Q vs H) := by
  induction h with
  | nil => exact pa_nil
  | cons h r hs ih => exact pa_cons (h.pe _) ih hs
theorem ClsT.rel {es : List Expr} {ys : List Str} {vs : List V} {Ds : List Value} (h : ClsT X es ys vs Ds) : ∀ us, Vals vs us → us = Ds := by
  induction h with
  | nil => intro us r; cases r; rfl
  | cons h r hs ih =>
    intro us q
    cases q with
    | cons q1 q2 => rw [h.rel _ q1, ih _ q2]
theorem ClsT.cl {es : List Expr} {ys : List Str} {vs : List V} {Ds : List Value} (h : ClsT X es ys vs Ds) : ClVs X.mg ys Ds := by
  induction h with
  | nil => exact .nil
  | cons h r hs ih => exact .cons h.cl ih
theorem ClsT.len {es : List Expr} {ys : List Str} {vs : List V} {Ds : List Value} (h : ClsT X es ys vs Ds) : vs.length = ys.length := by
  induction h with
  | nil => rfl
  | cons h r hs ih => simp [ih]
end
/-! ### what the top tells -/
section
variable {K : PySem.W.Frag} {mg : Str → Option Value} {P : Program} {w : World} {base : Heap}
theorem exm_of {C D : Addr} {b : Bool} (h1 : PySem.W.subIn K (.ref D) (.type "BaseException") = some true) (h2 : (PySem.W.clsIn K D).isSome = true) (h3 : PySem.W.typeIn K (.ref D) = some (.type "type")) (h4 : PySem.W.subIn K (.ref C) (.ref D) = some b) :
    PySem.W.exmOne K (.ref C) (.ref D) = some b := by
  have e1 : (PySem.W.subIn K (.ref D) (.type "BaseException") == some true) = true := by rw [h1] <;> rfl
  have e2 : ((PySem.W.clsIn K D).isSome && PySem.W.typeIn K (.ref D) == some (.type "type")) = true := by rw [h2, h3] <;> rfl
  show (if (PySem.W.subIn K (.ref D) (.type "BaseException") == some true) = true then (if ((PySem.W.clsIn K D).isSome && PySem.W.typeIn K (.ref D) == some (.type "type")) = true then PySem.W.subIn K (.ref C) (.ref D) else none) else none) = some b
  rw [if_pos e1, if_pos e2]
  exact h4
theorem xfld_of {x f : Str} {C : Addr} (h : mg x = some (.ref C)) (k : XKl K C) (hno : PySem.W.findIn K (.ref C) f = some none) : XFld K mg x f := ⟨C, h, ⟨k.ga, k.gg, k.sub, k.hd⟩, hno⟩
end
end Mir

/-! list(reversed(a list)), list(a text) -/
namespace Mir
open PySem PySem.Spec PyProof.Rows L2 RT
section
variable {prog : Program} {w : World} {A : Around} {E : Value → Shared → Prop} {s : Shared}
end
section
variable {X : Cx}
end
section
variable {X : Cx} {E : XK} {pos : Pos}
/-! ### list(a text) -/
end
/-! ### str(an int or a text) -/
def bStrA (ds : List D) (m : Mem) : R D := match ds with
  | [.str x] => .ok (.str x) m
  | [.int i] => if i.natAbs.log2 < 1920 then .ok (.str (Str.ofString (toString i))) m else .stk
  | _ => .stk
section
variable {X : Cx} {E : XK}
theorem cm_strA : CallR X (.type "str") (rCM X.K X.mg E bStrA) := by
  rintro pins s σ H xs us Q I rv ⟨W, m, ds, sm, rs, p⟩
  unfold bStrA at p
  split at p
  · obtain ⟨v, vr, rfl, r1, r2⟩ := rs.cons'
    rw [r2.nil', r1.str'] at rv
    exact SkE.call_str_str pins s σ H _ us Q I rv ⟨_, rfl, p.now sm rep_str⟩
  · obtain ⟨v, vr, rfl, r1, r2⟩ := rs.cons'
    rw [r2.nil', r1.int'] at rv
    split at p
    · rename_i hl
      exact call_str_int pins s σ H _ us Q I rv ⟨_, rfl, hl, p.now sm rep_str⟩
    · exact p.elim
  · exact p.elim
end
/-! ### isinstance's classes, told by what the kit answers -/
section
variable {K : PySem.W.Frag}
end
end Mir

/-! Mir: mirrors of yards looked at, written and read, and of papers as texts, that laws share (printed by shareN.py). -/
namespace Mir.N
open PySem PySem.Spec PyProof.Rows L2 Mir Mir.Y
def b_are_whole : SM := (mRet (mAndV (mIsi "tuple" (mVar 0)) (mAndV (mOp (gEq false) (mCB bLen (mCons (mVar 0) mNil)) (mVar 1)) (mCB (bAll fun bs => bs.all id) (mCons (mLc [2] false (mIt (mVar 0)) (gNm 2) mYes (mCall m_is_whole (mCons (mVar 2) mNil))) mNil)))))
def m_are_whole : FM := mFn 2 3 b_are_whole
def b_is_heap_s1 : SM := (mRet (mAndV (mCall Mir.N.m_are_whole (mCons (mOp gIx (mVar 0) (mC (.int 1))) (mCons (mVar 1) mNil))) (mCall Mir.N.m_are_whole (mCons (mOp gIx (mVar 0) (mC (.int 2))) (mCons (mVar 1) mNil)))))
def b_is_heap : SM := mSeq (mIfS (mOr (mNot (mTru (mIsi "tuple" (mVar 0)))) (mOr (mTest (mOp (gEq true) (mCB bLen (mCons (mVar 0) mNil)) (mC (.int 3)))) (mNot (mTru (mCall m_is_whole (mCons (mOp gIx (mVar 0) (mC (.int 0))) mNil)))))) (mRet (mC (.bl false))) mSkip) b_is_heap_s1
def m_is_heap : FM := mFn 2 2 b_is_heap
def b_has_form_s3 : SM := (mRet (mCB (bAll fun bs => bs.all id) (mCons (mLc [1] false (mIt (mOp gIx (mVar 0) (mC (.int 1)))) (gNm 1) mYes (mCall Mir.N.m_is_heap (mCons (mVar 1) (mCons (mCB bLen (mCons (mOp gIx (mVar 0) (mC (.int 0))) mNil)) mNil)))) mNil)))
def b_has_form_s2 : SM := mSeq (mIfS (mNot (mTru (mCB (bAll fun bs => bs.all id) (mCons (mLc [1] false (mIt (mOp gIx (mVar 0) (mC (.int 0)))) (gNm 1) mYes (mIsi "str" (mVar 1))) mNil)))) (mRet (mC (.bl false))) mSkip) b_has_form_s3
def b_has_form_s1 : SM := mSeq (mIfS (mOr (mNot (mTru (mIsi "tuple" (mOp gIx (mVar 0) (mC (.int 0)))))) (mNot (mTru (mIsi "tuple" (mOp gIx (mVar 0) (mC (.int 1))))))) (mRet (mC (.bl false))) mSkip) b_has_form_s2
def b_has_form : SM := mSeq (mIfS (mOr (mNot (mTru (mIsi "tuple" (mVar 0)))) (mTest (mOp (gEq true) (mCB bLen (mCons (mVar 0) mNil)) (mC (.int 2))))) (mRet (mC (.bl false))) mSkip) b_has_form_s1
def m_has_form : FM := mFn 1 2 b_has_form
def b_look_yard_s4 : SM := (mRet (mC (.bl true)))
def b_look_yard_s3 : SM := mSeq (mFor (mEnum 0 (mVar 2)) (gTp 2 (gsCons (gNm 5) (gsCons (gTp 3 (gsCons (gNm 6) (gsCons (gNm 7) (gsCons (gNm 8) gsNil)))) gsNil))) (mIfS (mTest (mOp gLt (mCB (bSel minL) (mCons (mOp (gAdd false) (mOp (gAdd false) (mTup (mCons (mVar 6) mNil)) (mVar 7)) (mVar 8)) mNil)) (mC (.int 0)))) (mRaise "NoYard" ["word", "at"] (mCons (mC (.str (Str.ofString "heap"))) (mCons (mTup (mCons (mVar 5) mNil)) mNil))) mSkip)) b_look_yard_s4
def b_look_yard_s2 : SM := mSeq (mFor (mEnum 0 (mVar 1)) (gTp 2 (gsCons (gNm 3) (gsCons (gNm 4) gsNil))) (mIfS (mOr (mNot (mTru (mCall m_is_name (mCons (mVar 4) mNil)))) (mAnd (mTest (mOp gGt (mVar 3) (mC (.int 0)))) (mNot (mTest (mOp gLt (mOp gIx (mVar 1) (mOp gSub (mVar 3) (mC (.int 1)))) (mVar 4)))))) (mRaise "NoYard" ["word", "at"] (mCons (mC (.str (Str.ofString "deed"))) (mCons (mTup (mCons (mVar 3) mNil)) mNil))) mSkip)) b_look_yard_s3
def b_look_yard_s1 : SM := mSeq (mAsg (mVar 0) (gTp 2 (gsCons (gNm 1) (gsCons (gNm 2) gsNil)))) b_look_yard_s2
def b_look_yard : SM := mSeq (mIfS (mNot (mTru (mCall Mir.N.m_has_form (mCons (mVar 0) mNil)))) (mRaise "NoYard" ["word", "at"] (mCons (mC (.str (Str.ofString "form"))) (mCons (mTup mNil) mNil))) mSkip) b_look_yard_s1
def m_look_yard : FM := mFn 1 9 b_look_yard
def b_names_in_s2 : SM := (mRet (mCB bTuple (mCons (mSl (gSl false) (mVar 1) (mPart (mC (.int 1))) mNoPart) mNil)))
def b_names_in_s1 : SM := mSeq (mIfS (mOr (mTest (mOp (gEq true) (mOp gIx (mVar 1) (mC (.int 0))) (mC (.str (Str.ofString "deeds"))))) (mNot (mTru (mCB (bAll fun bs => bs.all id) (mCons (mLc [2] false (mIt (mSl (gSl false) (mVar 1) (mPart (mC (.int 1))) mNoPart)) (gNm 2) mYes (mCall m_is_name (mCons (mVar 2) mNil))) mNil))))) (mRet (mC .non)) mSkip) b_names_in_s2
def b_names_in : SM := mSeq (mAsg (mBM "str" (gSplit false) (mVar 0) (mCons (mC (.str (Str.ofString " "))) mNil)) (gNm 1)) b_names_in_s1
def m_names_in : FM := mFn 1 3 b_names_in
def b_count_of_s2 : SM := (mRet (mVar 1))
def b_count_of_s1 : SM := mSeq (mIfS (mOr (mTest (mOp (gIs false) (mVar 1) (mC .non))) (mTest (mOp gLt (mVar 1) (mC (.int 0))))) (mRet (mC .non)) mSkip) b_count_of_s2
def b_count_of : SM := mSeq (mAsg (mCallK 1 0 [0, 1] [.int 9] m_number_of (mCons (mVar 0) mNil) mNil) (gNm 1)) b_count_of_s1
def m_count_of : FM := mFn 1 2 b_count_of
def b_heap_in_0s2 : SM := (mDrop (mBM "list" gAppend (mVar 5) (mCons (mCall Mir.N.m_count_of (mCons (mVar 9) mNil)) mNil)))
def b_heap_in_0s1 : SM := mSeq (mDrop (mBM "list" gAppend (mVar 4) (mCons (mCall Mir.N.m_count_of (mCons (mVar 7) mNil)) mNil))) b_heap_in_0s2
def b_heap_in_0 : SM := mSeq (mAsg (mBM "str" gPartition (mVar 6) (mCons (mC (.str (Str.ofString ">"))) mNil)) (gTp 3 (gsCons (gNm 7) (gsCons (gNm 8) (gsCons (gNm 9) gsNil))))) b_heap_in_0s1
def b_heap_in_s7 : SM := (mRet (mTup (mCons (mVar 3) (mCons (mCB bTuple (mCons (mVar 4) mNil)) (mCons (mCB bTuple (mCons (mVar 5) mNil)) mNil)))))
def b_heap_in_s6 : SM := mSeq (mIfS (mOr (mTest (mOp (gIs false) (mVar 3) (mC .non))) (mOr (mTest (mOp (gIn false) (mC .non) (mVar 4))) (mTest (mOp (gIn false) (mC .non) (mVar 5))))) (mRet (mC .non)) mSkip) b_heap_in_s7
def b_heap_in_s5 : SM := mSeq (mFor (mIt (mSl (gSl false) (mVar 2) (mPart (mC (.int 3))) mNoPart)) (gNm 6) b_heap_in_0) b_heap_in_s6
def b_heap_in_s4 : SM := mSeq (mAsg (mLst true mNil) (gNm 5)) b_heap_in_s5
def b_heap_in_s3 : SM := mSeq (mAsg (mLst true mNil) (gNm 4)) b_heap_in_s4
def b_heap_in_s2 : SM := mSeq (mAsg (mCall Mir.N.m_count_of (mCons (mOp gIx (mVar 2) (mC (.int 1))) mNil)) (gNm 3)) b_heap_in_s3
def b_heap_in_s1 : SM := mSeq (mIfS (mOr (mTest (mOp (gEq true) (mCB bLen (mCons (mVar 2) mNil)) (mOp (gAdd false) (mC (.int 3)) (mVar 1)))) (mOr (mTest (mOp (gEq true) (mOp gIx (mVar 2) (mC (.int 0))) (mC (.str (Str.ofString "heap"))))) (mTest (mOp (gEq true) (mOp gIx (mVar 2) (mC (.int 2))) (mC (.str (Str.ofString ":"))))))) (mRet (mC .non)) mSkip) b_heap_in_s2
def b_heap_in : SM := mSeq (mAsg (mBM "str" (gSplit false) (mVar 0) (mCons (mC (.str (Str.ofString " "))) mNil)) (gNm 2)) b_heap_in_s1
def m_heap_in : FM := mFn 2 10 b_heap_in
def b_read_yard_0s2 : SM := (mDrop (mBM "list" gAppend (mVar 3) (mCons (mVar 6) mNil)))
def b_read_yard_0s1 : SM := mSeq (mIfS (mTest (mOp (gIs false) (mVar 6) (mC .non))) (mRaise "NoText" ["row"] (mCons (mVar 4) mNil)) mSkip) b_read_yard_0s2
def b_read_yard_0 : SM := mSeq (mAsg (mCall Mir.N.m_heap_in (mCons (mOp gIx (mVar 1) (mVar 4)) (mCons (mCB bLen (mCons (mVar 2) mNil)) mNil))) (gNm 6)) b_read_yard_0s1
def b_read_yard_s7 : SM := (mRet (mVar 5))
def b_read_yard_s6 : SM := mSeq (mDrop (mCallX Mir.N.m_look_yard (mCons (mVar 5) mNil))) b_read_yard_s7
def b_read_yard_s5 : SM := mSeq (mAsg (mTup (mCons (mVar 2) (mCons (mCB bTuple (mCons (mVar 3) mNil)) mNil))) (gNm 5)) b_read_yard_s6
def b_read_yard_s4 : SM := mSeq (mFor (mRng2 (mC (.int 1)) (mCB bLen (mCons (mVar 1) mNil))) (gNm 4) b_read_yard_0) b_read_yard_s5
def b_read_yard_s3 : SM := mSeq (mAsg (mLst true mNil) (gNm 3)) b_read_yard_s4
def b_read_yard_s2 : SM := mSeq (mIfS (mTest (mOp (gIs false) (mVar 2) (mC .non))) (mRaise "NoText" ["row"] (mCons (mC (.int 0)) mNil)) mSkip) b_read_yard_s3
def b_read_yard_s1 : SM := mSeq (mAsg (mCall Mir.N.m_names_in (mCons (mOp gIx (mVar 1) (mC (.int 0))) mNil)) (gNm 2)) b_read_yard_s2
def b_read_yard : SM := mSeq (mAsg (mBM "str" (gSplit false) (mVar 0) (mCons (mC (.str (Str.ofString "\n"))) mNil)) (gNm 1)) b_read_yard_s1
def m_read_yard : FM := mFn 1 7 b_read_yard
def b_room_in_s2 : SM := (mRet (mVar 1))
def b_room_in_s1 : SM := mSeq (mIfS (mOr (mTest (mOp (gIs false) (mVar 1) (mC .non))) (mTest (mOp gLt (mVar 1) (mC (.int 0))))) (mRet (mC .non)) mSkip) b_room_in_s2
def b_room_in : SM := mSeq (mAsg (mCallK 1 0 [0, 1] [.int 9] m_number_of (mCons (mVar 0) mNil) mNil) (gNm 1)) b_room_in_s1
def m_room_in : FM := mFn 1 2 b_room_in
def b_fraction_text_s2 : SM := (mRet (mJs [(mFmt (mVar 1)), (mC (.str (Str.ofString "/"))), (mFmt (mVar 2))] Str.empty))
def b_fraction_text_s1 : SM := mSeq (mIfS (mTest (mOp (gEq false) (mVar 2) (mC (.int 1)))) (mRet (mCB bStr (mCons (mVar 1) mNil))) mSkip) b_fraction_text_s2
def b_fraction_text : SM := mSeq (mAsg (mVar 0) (gTp 2 (gsCons (gNm 1) (gsCons (gNm 2) gsNil)))) b_fraction_text_s1
def m_fraction_text : FM := mFn 1 3 b_fraction_text
def b_fractions_row : SM := (mRet (mBM "str" gJoin (mC (.str (Str.ofString " "))) (mCons (mOp (gAdd false) (mLst false (mCons (mVar 0) mNil)) (mLc [2] false (mIt (mVar 1)) (gNm 2) mYes (mCall Mir.N.m_fraction_text (mCons (mVar 2) mNil)))) mNil)))
def m_fractions_row : FM := mFn 2 3 b_fractions_row
def b_paper_text_s2 : SM := (mRet (mBM "str" gJoin (mC (.str (Str.ofString "\n"))) (mCons (mOp (gAdd false) (mVar 1) (mLst false (mCons (mCall Mir.N.m_fractions_row (mCons (mC (.str (Str.ofString "goes"))) (mCons (mOp gIx (mVar 0) (mUn gNeg (mC (.int 1)))) mNil))) mNil))) mNil)))
def b_paper_text_s1 : SM := mSeq (mIfS (mTest (mOp (gEq false) (mOp gIx (mVar 0) (mC (.int 0))) (mC (.str (Str.ofString "open"))))) (mDrop (mBM "list" gAppend (mVar 1) (mCons (mCall Mir.N.m_fractions_row (mCons (mC (.str (Str.ofString "weights"))) (mCons (mOp gIx (mVar 0) (mC (.int 3))) mNil))) mNil))) mSkip) b_paper_text_s2
def b_paper_text : SM := mSeq (mAsg (mLst true (mCons (mBM "str" gJoin (mC (.str (Str.ofString " "))) (mCons (mLst false (mCons (mOp gIx (mVar 0) (mC (.int 0))) (mCons (mCB bStr (mCons (mOp gIx (mVar 0) (mC (.int 1))) mNil)) (mCons (mCB bStrA (mCons (mOp gIx (mVar 0) (mC (.int 2))) mNil)) mNil)))) mNil)) mNil)) (gNm 1)) b_paper_text_s1
def m_paper_text : FM := mFn 1 2 b_paper_text
def b_head_in_s6 : SM := (mRet (mTup (mCons (mOp gIx (mVar 1) (mC (.int 0))) (mCons (mVar 2) (mCons (mVar 3) mNil)))))
def b_head_in_s5 : SM := mSeq (mIfS (mOr (mTest (mOp (gIs false) (mVar 2) (mC .non))) (mTest (mOp (gIs false) (mVar 3) (mC .non)))) (mRet (mC .non)) mSkip) b_head_in_s6
def b_head_in_s4 : SM := mSeq (mIfS (mTest (mOp (gEq false) (mOp gIx (mVar 1) (mC (.int 0))) (mC (.str (Str.ofString "alike"))))) (mAsg (mCall Mir.N.m_room_in (mCons (mOp gIx (mVar 1) (mC (.int 2))) mNil)) (gNm 3)) (mIfS (mNot (mTru (mCall m_is_name (mCons (mOp gIx (mVar 1) (mC (.int 2))) mNil)))) (mAsg (mC .non) (gNm 3)) mSkip)) b_head_in_s5
def b_head_in_s3 : SM := mSeq (mAsg (mOp gIx (mVar 1) (mC (.int 2))) (gNm 3)) b_head_in_s4
def b_head_in_s2 : SM := mSeq (mAsg (mCall Mir.N.m_room_in (mCons (mOp gIx (mVar 1) (mC (.int 1))) mNil)) (gNm 2)) b_head_in_s3
def b_head_in_s1 : SM := mSeq (mIfS (mOr (mTest (mOp (gEq true) (mCB bLen (mCons (mVar 1) mNil)) (mC (.int 3)))) (mTest (mOp (gIn true) (mOp gIx (mVar 1) (mC (.int 0))) (mTup (mCons (mC (.str (Str.ofString "alike"))) (mCons (mC (.str (Str.ofString "open"))) mNil)))))) (mRet (mC .non)) mSkip) b_head_in_s2
def b_head_in : SM := mSeq (mAsg (mBM "str" (gSplit false) (mVar 0) (mCons (mC (.str (Str.ofString " "))) mNil)) (gNm 1)) b_head_in_s1
def m_head_in : FM := mFn 1 4 b_head_in
def b_fractions_in_s3 : SM := (mRet (mCB bTuple (mCons (mVar 3) mNil)))
def b_fractions_in_s2 : SM := mSeq (mIfS (mOr (mTest (mOp (gEq true) (mOp gIx (mVar 2) (mC (.int 0))) (mVar 1))) (mTest (mOp (gIn false) (mC .non) (mVar 3)))) (mRet (mC .non)) mSkip) b_fractions_in_s3
def b_fractions_in_s1 : SM := mSeq (mAsg (mLc [4] false (mIt (mSl (gSl false) (mVar 2) (mPart (mC (.int 1))) mNoPart)) (gNm 4) mYes (mCall m_fraction_of (mCons (mVar 4) mNil))) (gNm 3)) b_fractions_in_s2
def b_fractions_in : SM := mSeq (mAsg (mBM "str" (gSplit false) (mVar 0) (mCons (mC (.str (Str.ofString " "))) mNil)) (gNm 2)) b_fractions_in_s1
def m_fractions_in : FM := mFn 2 5 b_fractions_in
def b_read_paper_0s3 : SM := (mAsg (mOp (gAdd false) (mVar 2) (mTup (mCons (mVar 6) mNil))) (gNm 2))
def b_read_paper_0s2 : SM := mSeq (mIfS (mTest (mOp (gIs false) (mVar 6) (mC .non))) (mRaise "NoText" ["row"] (mCons (mOp (gAdd false) (mVar 4) (mC (.int 1))) mNil)) mSkip) b_read_paper_0s3
def b_read_paper_0s1 : SM := mSeq (mAsg (mCall Mir.N.m_fractions_in (mCons (mOp gIx (mVar 1) (mOp (gAdd false) (mVar 4) (mC (.int 1)))) (mCons (mVar 5) mNil))) (gNm 6)) b_read_paper_0s2
def b_read_paper_0 : SM := mSeq (mIfS (mTest (mOp gGe (mOp (gAdd false) (mVar 4) (mC (.int 1))) (mCB bLen (mCons (mVar 1) mNil)))) (mRaise "NoText" ["row"] (mCons (mCB bLen (mCons (mVar 1) mNil)) mNil)) mSkip) b_read_paper_0s1
def b_read_paper_s7 : SM := (mRet (mVar 2))
def b_read_paper_s6 : SM := mSeq (mIfS (mTest (mOp gGt (mCB bLen (mCons (mVar 1) mNil)) (mOp (gAdd false) (mC (.int 1)) (mCB bLen (mCons (mVar 3) mNil))))) (mRaise "NoText" ["row"] (mCons (mOp (gAdd false) (mC (.int 1)) (mCB bLen (mCons (mVar 3) mNil))) mNil)) mSkip) b_read_paper_s7
def b_read_paper_s5 : SM := mSeq (mFor (mEnum 0 (mVar 3)) (gTp 2 (gsCons (gNm 4) (gsCons (gNm 5) gsNil))) b_read_paper_0) b_read_paper_s6
def b_read_paper_s4 : SM := mSeq (mIfS (mTest (mOp (gEq false) (mOp gIx (mVar 2) (mC (.int 0))) (mC (.str (Str.ofString "open"))))) (mAsg (mLst false (mCons (mC (.str (Str.ofString "weights"))) (mCons (mC (.str (Str.ofString "goes"))) mNil))) (gNm 3)) mSkip) b_read_paper_s5
def b_read_paper_s3 : SM := mSeq (mAsg (mLst false (mCons (mC (.str (Str.ofString "goes"))) mNil)) (gNm 3)) b_read_paper_s4
def b_read_paper_s2 : SM := mSeq (mIfS (mTest (mOp (gIs false) (mVar 2) (mC .non))) (mRaise "NoText" ["row"] (mCons (mC (.int 0)) mNil)) mSkip) b_read_paper_s3
def b_read_paper_s1 : SM := mSeq (mAsg (mCall Mir.N.m_head_in (mCons (mOp gIx (mVar 1) (mC (.int 0))) mNil)) (gNm 2)) b_read_paper_s2
def b_read_paper : SM := mSeq (mAsg (mBM "str" (gSplit false) (mVar 0) (mCons (mC (.str (Str.ofString "\n"))) mNil)) (gNm 1)) b_read_paper_s1
def m_read_paper : FM := mFn 1 7 b_read_paper
end Mir.N

/-! Mir: data that is alike. -/
namespace Mir
open PySem PySem.Spec PyProof.Rows L2
@[simp] theorem kit_int_int : kitB "int" "int" = some true := by decide +kernel
@[simp] theorem kit_int_bool : kitB "int" "bool" = some false := by decide +kernel
@[simp] theorem kit_int_str : kitB "int" "str" = some false := by decide +kernel
@[simp] theorem kit_int_tuple : kitB "int" "tuple" = some false := by decide +kernel
@[simp] theorem kit_int_list : kitB "int" "list" = some false := by decide +kernel
@[simp] theorem kit_bool_int : kitB "bool" "int" = some true := by decide +kernel
@[simp] theorem kit_bool_bool : kitB "bool" "bool" = some true := by decide +kernel
@[simp] theorem kit_bool_str : kitB "bool" "str" = some false := by decide +kernel
@[simp] theorem kit_bool_tuple : kitB "bool" "tuple" = some false := by decide +kernel
@[simp] theorem kit_bool_list : kitB "bool" "list" = some false := by decide +kernel
@[simp] theorem kit_str_int : kitB "str" "int" = some false := by decide +kernel
@[simp] theorem kit_str_bool : kitB "str" "bool" = some false := by decide +kernel
@[simp] theorem kit_str_str : kitB "str" "str" = some true := by decide +kernel
@[simp] theorem kit_str_tuple : kitB "str" "tuple" = some false := by decide +kernel
@[simp] theorem kit_str_list : kitB "str" "list" = some false := by decide +kernel
@[simp] theorem kit_tuple_int : kitB "tuple" "int" = some false := by decide +kernel
@[simp] theorem kit_tuple_bool : kitB "tuple" "bool" = some false := by decide +kernel
@[simp] theorem kit_tuple_str : kitB "tuple" "str" = some false := by decide +kernel
@[simp] theorem kit_tuple_tuple : kitB "tuple" "tuple" = some true := by decide +kernel
@[simp] theorem kit_tuple_list : kitB "tuple" "list" = some false := by decide +kernel
@[simp] theorem kit_list_int : kitB "list" "int" = some false := by decide +kernel
@[simp] theorem kit_list_bool : kitB "list" "bool" = some false := by decide +kernel
@[simp] theorem kit_list_str : kitB "list" "str" = some false := by decide +kernel
@[simp] theorem kit_list_tuple : kitB "list" "tuple" = some false := by decide +kernel
@[simp] theorem kit_list_list : kitB "list" "list" = some true := by decide +kernel
@[simp] theorem kit_NoneType_int : kitB "NoneType" "int" = some false := by decide +kernel
@[simp] theorem kit_NoneType_bool : kitB "NoneType" "bool" = some false := by decide +kernel
@[simp] theorem kit_NoneType_str : kitB "NoneType" "str" = some false := by decide +kernel
@[simp] theorem kit_NoneType_tuple : kitB "NoneType" "tuple" = some false := by decide +kernel
@[simp] theorem kit_NoneType_list : kitB "NoneType" "list" = some false := by decide +kernel
@[simp] theorem ap_isiT (η : Env') (m : Mem) (a : EM) (Ts : List String) : mIsiT Ts a η m = (a η m).bind fun d m1 => optR m1 (((tyNm m1 d).bind fun t => kitsB t Ts).map D.bl) := by
  show (a η m).bind _ = _
  congr
  funext x m1
  cases (tyNm m1 x).bind fun t => kitsB t Ts <;> rfl
@[simp] theorem tyNm_non (m : Mem) : tyNm m .non = some "NoneType" := nr rfl
@[simp] theorem tyNm_bl (m : Mem) (b : Bool) : tyNm m (.bl b) = some "bool" := nr rfl
@[simp] theorem tyNm_int (m : Mem) (i : Int) : tyNm m (.int i) = some "int" := nr rfl
@[simp] theorem tyNm_str (m : Mem) (x : Str) : tyNm m (.str x) = some "str" := nr rfl
@[simp] theorem tyNm_tup (m : Mem) (ds : List D) : tyNm m (.tup ds) = some "tuple" := nr rfl
@[simp] theorem tyNm_lst (m : Mem) (ds : List D) : tyNm m (.lst ds) = some "list" := nr rfl
theorem tyNm_ref {m : Mem} {j : Nat} {l : List D} (h : m[j]? = some (.lst l)) : tyNm m (.ref j) = some "list" := by
  show (match m[j]? with
    | some (.lst _) => some "list"
    | some (.dK _) => some "dict"
    | _ => none) = _
  rw [h]
@[simp] theorem isNon_non : isNon .non = true := nr rfl
@[simp] theorem isNon_bl (b : Bool) : isNon (.bl b) = false := nr rfl
@[simp] theorem isNon_int (i : Int) : isNon (.int i) = false := nr rfl
@[simp] theorem isNon_str (x : Str) : isNon (.str x) = false := nr rfl
@[simp] theorem isNon_tup (ds : List D) : isNon (.tup ds) = false := nr rfl
@[simp] theorem isNon_lst (ds : List D) : isNon (.lst ds) = false := nr rfl
@[simp] theorem isNon_ref (i : Nat) : isNon (.ref i) = false := nr rfl
/-- data with its lists at once -/
def nrm (m : Mem) : Nat → D → Option D
  | 0, _ => none
  | n + 1, .tup ds => if ds.length ≤ 100000 then (mapO (nrm m n) ds).map .tup else none
  | n + 1, .lst ds => if ds.length ≤ 100000 then (mapO (nrm m n) ds).map .lst else none
  | n + 1, .ref i => match m[i]? with
    | some (.lst ds) => if ds.length ≤ 100000 then (mapO (nrm m n) ds).map .lst else none
    | _ => none
  | _ + 1, .scr _ => none
  | _ + 1, .non => some .non
  | _ + 1, .bl b => some (.bl b)
  | _ + 1, .int i => some (.int i)
  | _ + 1, .str x => some (.str x)
theorem lcl_still {src : Src} {g : GM} {t : TM} {e : EM} {η : Env'} {m : Mem} {ds : List D} (f : D → D) (h : ∀ k, k ≤ ds.length → src k m = some ds[k]?) (ht : ∀ d ∈ ds, ∃ η1, g d η m = .ok η1 m ∧ t η1 m = .ok true m ∧ e η1 m = .ok (f d) m) :
    ∀ (n k : Nat) (acc : List D), n + k = ds.length → acc.length + n ≤ sizeLine → mLcL src g t e η n k m acc = .ok (acc ++ (ds.drop k).map f) m
  | 0, k, acc, hn, _ => by
    unfold mLcL
    have hk : ds[k]? = none := List.getElem?_eq_none (by omega)
    rw [h k (by omega), hk]
    simp only
    rw [List.drop_of_length_le (by omega)]
    simp
  | n + 1, k, acc, hn, hl => by
    unfold mLcL
    have hk : ds[k]? = some ds[k] := List.getElem?_eq_getElem (by omega)
    rw [h k (by omega), hk]
    obtain ⟨η1, h1, h2, h3⟩ := ht ds[k] (List.getElem_mem _)
    simp only [h1, h2, h3, noX_ok, bind_ok, if_true]
    rw [if_pos (by omega), lcl_still f h ht n (k + 1) (acc ++ [f ds[k]]) (by omega) (by simp; omega)]
    rw [List.append_assoc, List.drop_eq_getElem_cons (by omega : k < ds.length)]
    rfl
theorem mapO_len {α β : Type} {f : α → Option β} : ∀ {l : List α} {r : List β}, mapO f l = some r → r.length = l.length
  | [], r, h => by cases h; rfl
  | a :: l, r, h => by
    obtain ⟨b, bs, rfl, h1, h2⟩ := mapO_cons h
    simp [mapO_len h2]
theorem mapO_get {α β : Type} {f : α → Option β} : ∀ {l : List α} {r : List β}, mapO f l = some r → ∀ (k : Nat) (a : α), l[k]? = some a → ∃ b, r[k]? = some b ∧ f a = some b
  | [], r, h, k, a, e => by simp at e
  | x :: l, r, h, 0, a, e => by
    obtain ⟨b, bs, rfl, h1, h2⟩ := mapO_cons h
    simp at e
    subst e
    exact ⟨b, rfl, h1⟩
  | x :: l, r, h, k + 1, a, e => by
    obtain ⟨b, bs, rfl, h1, h2⟩ := mapO_cons h
    obtain ⟨b', e1, e2⟩ := mapO_get h2 k a (by simpa using e)
    exact ⟨b', by simpa using e1, e2⟩
theorem mem_zipD {xs ys : List D} {d : D} (h : d ∈ zipD xs ys) : ∃ (k : Nat) (a b : D), xs[k]? = some a ∧ ys[k]? = some b ∧ d = .tup [a, b] := by
  obtain ⟨k, hk⟩ := List.mem_iff_getElem?.mp h
  unfold zipD at hk
  rw [List.getElem?_zipWith] at hk
  cases hx : xs[k]? with
  | none => rw [hx] at hk; cases hk
  | some a =>
    cases hy : ys[k]? with
    | none => rw [hx, hy] at hk; cases hk
    | some b =>
      rw [hx, hy] at hk
      cases hk
      exact ⟨k, a, b, hx, hy, rfl⟩
theorem strOk_S {l : List Nat} (h : ∀ c ∈ l, c < 1114112) : PyData.strOk (SX.S l) = true := by
  unfold PyData.strOk
  rw [Array.all_eq_true']
  intro c hc
  simp [SX.S] at hc
  exact decide_eq_true (h c hc)
namespace Y
theorem alike_seq {m : Mem} {n : Nat} {d1 d2 : D} {ds1 ds2 es : List D} (ih : ∀ a b e, nrm m n a = some e → nrm m n b = some e → m__law_alike n [a, b] m = .ok (.bl true) m)
    (h1 : rdS1 d1 m = some ds1) (h2 : rdS1 d2 m = some ds2) (k1 : mapO (nrm m n) ds1 = some es) (k2 : mapO (nrm m n) ds2 = some es) (hl : ds1.length ≤ 100000) (b1 : bLen [d1] m = .ok (.int (ds1.length : Nat)) m) (b2 : bLen [d2] m = .ok (.int (ds2.length : Nat)) m) {P : D → Mem → Prop} (hP : P (.bl true) m) (x2 x3 : Option D) :
    TriS (b__law_alike_0s1 (m__law_alike n) [some d1, some d2, x2, x3] m) (fun _ _ => False) P := by
  have hlen : ds1.length = ds2.length := by rw [← mapO_len k1, ← mapO_len k2]
  have hsz : ds1.length ≤ sizeLine := size_le (by omega)
  simp [b__law_alike_0s1, b1, b2, hlen, b__law_alike_0s2]
  have hz : zipR d1 d2 m = .ok (srcZ (rdS1 d1) (rdS1 d2), min ds1.length ds2.length) m := by
    unfold zipR
    rw [h1, h2]
  rw [hz]
  simp only [tri_ok]
  have hlz : min ds1.length ds2.length = (zipD ds1 ds2).length := (zipD_length _ _).symm
  have hsrc : ∀ k, k ≤ (zipD ds1 ds2).length → srcZ (rdS1 d1) (rdS1 d2) k m = some (zipD ds1 ds2)[k]? := by
    intro k hk
    have := srcZ_pure (f := fun _ => some ds1) (g := fun _ => some ds2) (fun _ => rfl) (fun _ => rfl) k m hk
    rw [← this]
    unfold srcZ
    rw [h1, h2]
  rw [lcl_still (fun _ => D.bl true) hsrc (fun d hd => by
    obtain ⟨k, a, b, q1, q2, rfl⟩ := mem_zipD hd
    obtain ⟨e1, r1, r2⟩ := mapO_get k1 k _ q1
    obtain ⟨e2, r3, r4⟩ := mapO_get k2 k _ q2
    rw [r1] at r3
    cases r3
    refine ⟨_, rfl, rfl, ?_⟩
    simp [wipeE, ih _ _ _ r2 r4]) _ 0 [] (by rw [hlz]; rfl) (by rw [hlz, zipD_length]; simp; omega)]
  simp only [tri_ok, List.nil_append, List.drop_zero]
  have hm : (zipD ds1 ds2).map (fun _ => D.bl true) = ((zipD ds1 ds2).map (fun _ => true)).map .bl := by rw [List.map_map]; rfl
  rw [hm, bAll_bls]
  have : ((zipD ds1 ds2).map (fun _ => true)).all id = true := by simp
  rw [this]
  exact hP
theorem alike_of {m : Mem} : ∀ (n : Nat) (d1 d2 e : D), nrm m n d1 = some e → nrm m n d2 = some e → m__law_alike n [d1, d2] m = .ok (.bl true) m
  | 0, d1, d2, e, h, _ => by cases h
  | n + 1, d1, d2, e, h1, h2 => by
    have ih := alike_of (m := m) n
    have key : Tri (m__law_alike (n + 1) [d1, d2] m) (fun d m' => d = .bl true ∧ m' = m) := by
      refine tri_fn rfl ?_
      have fin : ∀ {N : Env' → Mem → Prop} {r : RS} {Q : D → Mem → Prop}, TriS r (fun _ _ => False) Q → TriS r N Q := fun h => h.mono (fun _ _ z => z.elim) (fun _ _ z => z)
      have okP : (fun (d : D) (m' : Mem) => d = .bl true ∧ m' = m) (.bl true) m := ⟨rfl, rfl⟩
      -- lists
      have lst : ∀ (ds1 ds2 es : List D), rdS1 d1 m = some ds1 → rdS1 d2 m = some ds2 → tyNm m d1 = some "list" → tyNm m d2 = some "list" → mapO (nrm m n) ds1 = some es → mapO (nrm m n) ds2 = some es → ds1.length ≤ 100000 → bLen [d1] m = .ok (.int (ds1.length : Nat)) m → bLen [d2] m = .ok (.int (ds2.length : Nat)) m → TriS (b__law_alike (m__law_alike n) ([d1, d2].map some ++ List.replicate (4 - 2) none) m) (fun _ m' => D.non = .bl true ∧ m' = m) (fun d m' => d = .bl true ∧ m' = m) := by
        intro ds1 ds2 es a1 a2 t1 t2 k1 k2 hl b1 b2
        simp [b__law_alike, t1, t2, kitsB, b__law_alike_0]
        exact fin (alike_seq ih a1 a2 k1 k2 hl b1 b2 okP _ _)
      have asL : ∀ (d : D) (es : List D), nrm m (n + 1) d = some (.lst es) → ∃ ds, rdS1 d m = some ds ∧ tyNm m d = some "list" ∧ mapO (nrm m n) ds = some es ∧ ds.length ≤ 100000 ∧ bLen [d] m = .ok (.int (ds.length : Nat)) m := by
        intro d es h
        cases d with
        | lst ds =>
          simp only [nrm] at h
          split at h
          · rename_i hl
            cases hm : mapO (nrm m n) ds with
            | none => rw [hm] at h; cases h
            | some r => rw [hm] at h; cases h; exact ⟨ds, rfl, rfl, hm, hl, rfl⟩
          · cases h
        | ref j =>
          simp only [nrm] at h
          cases hj : m[j]? with
          | none => rw [hj] at h; cases h
          | some c =>
            rw [hj] at h
            cases c with
            | lst ds =>
              simp only at h
              split at h
              · rename_i hl
                cases hm : mapO (nrm m n) ds with
                | none => rw [hm] at h; cases h
                | some r =>
                  rw [hm] at h
                  cases h
                  exact ⟨ds, by show lstC m[j]? = _; rw [hj]; rfl, tyNm_ref hj, hm, hl, len_ref hj⟩
              · cases h
            | _ => cases h
        | tup ds =>
          simp only [nrm] at h
          split at h
          · cases hm : mapO (nrm m n) ds with
            | none => rw [hm] at h; cases h
            | some r => rw [hm] at h; cases h
          · cases h
        | _ => simp [nrm] at h
      have asT : ∀ (d : D) (es : List D), nrm m (n + 1) d = some (.tup es) → ∃ ds, d = .tup ds ∧ mapO (nrm m n) ds = some es ∧ ds.length ≤ 100000 := by
        intro d es h
        cases d with
        | tup ds =>
          simp only [nrm] at h
          split at h
          · rename_i hl
            cases hm : mapO (nrm m n) ds with
            | none => rw [hm] at h; cases h
            | some r => rw [hm] at h; cases h; exact ⟨ds, rfl, hm, hl⟩
          · cases h
        | lst ds =>
          simp only [nrm] at h
          split at h
          · cases hm : mapO (nrm m n) ds with
            | none => rw [hm] at h; cases h
            | some r => rw [hm] at h; cases h
          · cases h
        | ref j =>
          simp only [nrm] at h
          split at h
          · split at h
            · rename_i ds _ _
              cases hm : mapO (nrm m n) ds with
              | none => rw [hm] at h; cases h
              | some r => rw [hm] at h; cases h
            · cases h
          · cases h
        | _ => simp [nrm] at h
      have asF : ∀ (d : D), nrm m (n + 1) d = some e → (∀ es, e ≠ .lst es) → (∀ es, e ≠ .tup es) → d = e := by
        intro d h n1 n2
        cases d with
        | tup ds =>
          simp only [nrm] at h
          split at h
          · cases hm : mapO (nrm m n) ds with
            | none => rw [hm] at h; cases h
            | some r => rw [hm] at h; cases h; exact absurd rfl (n2 r)
          · cases h
        | lst ds =>
          simp only [nrm] at h
          split at h
          · cases hm : mapO (nrm m n) ds with
            | none => rw [hm] at h; cases h
            | some r => rw [hm] at h; cases h; exact absurd rfl (n1 r)
          · cases h
        | ref j =>
          simp only [nrm] at h
          split at h
          · split at h
            · rename_i ds _ _
              cases hm : mapO (nrm m n) ds with
              | none => rw [hm] at h; cases h
              | some r => rw [hm] at h; cases h; exact absurd rfl (n1 r)
            · cases h
          · cases h
        | scr ds => simp [nrm] at h
        | non => simpa [nrm] using h
        | bl b => simpa [nrm] using h
        | int i => simpa [nrm] using h
        | str x => simpa [nrm] using h
      cases e with
      | lst es =>
        obtain ⟨ds1, a1, t1, k1, l1, b1⟩ := asL d1 es h1
        obtain ⟨ds2, a2, t2, k2, l2, b2⟩ := asL d2 es h2
        exact lst ds1 ds2 es a1 a2 t1 t2 k1 k2 l1 b1 b2
      | tup es =>
        obtain ⟨ds1, rfl, k1, l1⟩ := asT d1 es h1
        obtain ⟨ds2, rfl, k2, l2⟩ := asT d2 es h2
        simp [b__law_alike, kitsB, b__law_alike_0]
        exact fin (alike_seq ih rfl rfl k1 k2 l1 rfl rfl okP _ _)
      | non =>
        have e1 := asF d1 h1 (by simp) (by simp)
        have e2 := asF d2 h2 (by simp) (by simp)
        subst e1; subst e2
        simp [b__law_alike, kitsB, b__law_alike_s1, gEq, flatD, scal]
      | bl b =>
        have e1 := asF d1 h1 (by simp) (by simp)
        have e2 := asF d2 h2 (by simp) (by simp)
        subst e1; subst e2
        simp [b__law_alike, kitsB, b__law_alike_s1, b__law_alike_s2]
      | int b =>
        have e1 := asF d1 h1 (by simp) (by simp)
        have e2 := asF d2 h2 (by simp) (by simp)
        subst e1; subst e2
        simp [b__law_alike, kitsB, b__law_alike_s1, b__law_alike_s2]
      | str b =>
        have e1 := asF d1 h1 (by simp) (by simp)
        have e2 := asF d2 h2 (by simp) (by simp)
        subst e1; subst e2
        simp [b__law_alike, kitsB, b__law_alike_s1]
      | scr ds => 
        have e1 := asF d1 h1 (by simp) (by simp)
        subst e1
        simp [nrm] at h1
      | ref j =>
        have e1 := asF d1 h1 (by simp) (by simp)
        subst e1
        simp only [nrm] at h1
        split at h1
        · split at h1
          · rename_i ds _ _
            cases hm : mapO (nrm m n) ds with
            | none => rw [hm] at h1; cases h1
            | some r => rw [hm] at h1; cases h1
          · cases h1
        · cases h1
    obtain ⟨d, m', e, rfl, rfl⟩ := key.ex
    exact e
end Y
end Mir

/-! Mir: what the laws' shared drawing functions tell. -/
namespace Mir
open PySem PySem.Spec PyProof.Rows L2
/-! ### texts cut -/
theorem S_append (a b : List Nat) : SX.S a ++ SX.S b = SX.S (a ++ b) := by
  show Str.mk (a.toArray ++ b.toArray) = _
  simp [SX.S]
theorem S_of (x : Str) : SX.S x.cps.toList = x := by cases x; rfl
/-! ### names -/
def letL : List Nat := [97, 98, 99, 100, 101, 102, 103, 104, 105, 106, 107, 108, 109, 110, 111, 112, 113, 114, 115, 116, 117, 118, 119, 120, 121, 122]
theorem letL_eq : letL = (List.range 26).map (· + 97) := by decide
theorem letL_mem (c : Nat) : c ∈ letL ↔ 97 ≤ c ∧ c ≤ 122 := by
  rw [letL_eq]
  simp
  constructor
  · rintro ⟨a, ha, rfl⟩; omega
  · intro h; exact ⟨c - 97, by omega, by omega⟩
theorem let_S : Str.ofString "abcdefghijklmnopqrstuvwxyz" = SX.S letL := by decide +kernel
def keptW : List Str := [Str.ofString "deeds", Str.ofString "room", Str.ofString "heap", Str.ofString "map", Str.ofString "yard"]
structure Nm (x : Str) : Prop where
  lo : 1 ≤ x.length
  hi : x.length ≤ 6
  let' : ∀ c ∈ x.cps.toList, c ∈ letL
  kept : x ∉ keptW
def ltS (a b : Str) : Prop := a.cps.toList < b.cps.toList
structure Nms (ns : List Str) : Prop where
  nm : ∀ x ∈ ns, Nm x
  up : ns.Pairwise ltS
theorem kept_len {x : Str} (h : x ∈ keptW) : 3 ≤ x.length ∧ x.length ≤ 5 := by
  simp only [keptW, List.mem_cons, List.not_mem_nil, or_false] at h
  rcases h with rfl | rfl | rfl | rfl | rfl <;> decide
theorem q_S : Str.ofString "q" = SX.S [113] := by decide +kernel
namespace Y
theorem pick_y {m : Mem} {i : Nat} {n : Int} (hf : FlowAt m i) (hn : 0 < n) (hb : n ≤ 1000000) : Tri (m__law_pick [.ref i, .int n] m) (fun d m' => ∃ k : Nat, d = .int (k : Nat) ∧ (k : Int) < n ∧ Flo m m' i) := pick_flo hf hn (by omega)
theorem pick_then {m : Mem} {i : Nat} {n : Int} {P : D → Mem → Prop} (hf : FlowAt m i) (hn : 0 < n) (hb : n ≤ 1000000) (h : ∀ (k : Nat) m', (k : Int) < n → Flo m m' i → P (.int (k : Nat)) m') : Tri (m__law_pick [.ref i, .int n] m) P :=
  (pick_y hf hn hb).mono fun d m' ⟨k, e, h1, h2⟩ => by
    rw [e]
    exact h k m' h1 h2
theorem flow_y (ns : List Int) (hl : ns.length ≤ 63) : ∃ m, m__law_flow [.scr (ns.map .int)] [] = .ok (.ref 0) m ∧ FlowAt m 0 := by
  refine ⟨[.lst [.lst (ns.map .int), .int 0, .int 0, .int 1, .int 0]], ?_, _, rfl, ns, 0, 0, 1, 0, rfl, by decide, by decide, by decide, by decide⟩
  have key : Tri (m__law_flow [.scr (ns.map .int)] []) (fun d m' => d = .ref 0 ∧ m' = [.lst [.lst (ns.map .int), .int 0, .int 0, .int 1, .int 0]]) := by
    refine tri_fn rfl ?_
    have h5 : 5 ≤ sizeLine := size_le (by decide)
    have hl2 : ns.length ≤ sizeLine := size_le (by omega)
    simp [b__law_flow, bList, seqOf, lstOf, lR, h5, hl2]
  obtain ⟨d, m', e, rfl, rfl⟩ := key.ex
  exact e
theorem atI_nat {α : Type} {l : List α} {k : Nat} {x : α} (h : l[k]? = some x) : atI l (k : Nat) = some x := by
  unfold atI ixN
  have := (List.getElem?_eq_some_iff.mp h).1
  rw [if_pos (by omega), if_pos (by omega)]
  simpa using h
theorem letL_get {k : Nat} (h : k < 26) : letL[k]? = some (k + 97) := by
  rw [letL_eq]
  simp [h]
theorem gIx_let {k : Nat} (h : k < 26) (m : Mem) : gIx (.str (SX.S letL)) (.int (k : Nat)) m = .ok (.str ⟨#[k + 97]⟩) m := gIx_str (by decide) (atI_nat (letL_get h))
theorem gIn_kept {x : Str} {neg : Bool} {m : Mem} : gIn neg (.str x) (.tup [.str (Str.ofString "deeds"), .str (Str.ofString "room"), .str (Str.ofString "heap"), .str (Str.ofString "map"), .str (Str.ofString "yard")]) m = .ok (.bl (decide (x ∈ keptW) ^^ neg)) m := gIn_tstrs (ys := keptW)
theorem sz (n : Nat) (h : n ≤ 1000000) : n ≤ sizeLine := size_le h
theorem rng_nat {n : Nat} (h : n ≤ 1000000) (m : Mem) : rng1R (.int (n : Nat)) m = .ok (srcLP (rngD 0 n)) m := by
  rw [rng1R_int _ _ (by omega) (by omega), Int.toNat_natCast]
/-- a text of drawn letters -/
theorem letters_draw {m : Mem} {i n : Nat} {η : Env'} {j q : Nat} (hf : FlowAt m i) (hn : n ≤ 1000) (h0 : ∀ d, (η.set j (some d))[0]? = some (some (.ref i))) (hq : ∀ d, (η.set j (some d))[q]? = some (some (.str (SX.S letL)))) :
    Tri (compD (gNm j) mYes (mOp gIx (mVar q) (mCall m__law_pick (mCons (mVar 0) (mCons (mC (.int 26)) mNil)))) η (rngD 0 n) m []) (fun acc m' => ∃ cs : List Nat, acc = cs.map (fun c => D.str ⟨#[c]⟩) ∧ cs.length = n ∧ (∀ c ∈ cs, c ∈ letL) ∧ Flo m m' i) := by
  refine (comp_draw (fun c => D.str ⟨#[c]⟩) (fun c => c ∈ letL) hf (by simp; omega) ?_).mono ?_
  · intro d m' hd hfl
    simp [h0, hq]
    refine (pick_y hfl.at (n := 26) (by decide) (by decide)).mono ?_
    rintro _ m2 ⟨k, rfl, hk, hfl2⟩
    have hk : k < 26 := by omega
    rw [gIx_let hk]
    refine ⟨k + 97, rfl, ?_, hfl.trans hfl2⟩
    rw [letL_mem]
    omega
  · rintro acc m' ⟨cs, e, hl, hP, hfl⟩
    exact ⟨cs, e, by simpa using hl, hP, hfl⟩
theorem join_letters {cs : List Nat} {m : Mem} (h : cs.length ≤ 1000) : gJoin (.str (Str.ofString "")) [.lst (cs.map fun c => D.str ⟨#[c]⟩)] m = .ok (.str (SX.S cs)) m := gJoin_chars (by omega)
theorem gMod_nat {a b : Nat} (hb : 0 < b) (m : Mem) : gMod (.int (a : Nat)) (.int (b : Nat)) m = .ok (.int ((a % b : Nat) : Int)) m := by
  rw [gMod_pos (by omega)]; simp
end Y
/-! ### heaps, yards -/
structure Hea where
  s : Int
  t : List Int
  l : List Int
def iT (xs : List Int) : D := .tup (xs.map .int)
def sT (xs : List Str) : D := .tup (xs.map .str)
def heaD (h : Hea) : D := .tup [.int h.s, iT h.t, iT h.l]
structure Yar where
  d : List Str
  h : List Hea
def yarD (y : Yar) : D := .tup [sT y.d, .tup (y.h.map heaD)]
structure OkHea (n : Nat) (b : Int) (h : Hea) : Prop where
  s0 : 0 ≤ h.s
  s1 : h.s ≤ b
  tl : h.t.length = n
  ll : h.l.length = n
  t : ∀ x ∈ h.t, 0 ≤ x ∧ x ≤ b
  l : ∀ x ∈ h.l, 0 ≤ x ∧ x ≤ b
structure OkYar (y : Yar) : Prop where
  nm : Nms y.d
  few : y.d.length ≤ 5
  hp : ∀ h ∈ y.h, OkHea y.d.length 50 h
  fewh : y.h.length ≤ 12
theorem OkHea.mono {n : Nat} {b c : Int} {h : Hea} (k : OkHea n b h) (hbc : b ≤ c) : OkHea n c h :=
  ⟨k.s0, Int.le_trans k.s1 hbc, k.tl, k.ll, fun x hx => ⟨(k.t x hx).1, Int.le_trans (k.t x hx).2 hbc⟩, fun x hx => ⟨(k.l x hx).1, Int.le_trans (k.l x hx).2 hbc⟩⟩
theorem Tri.imp {α : Type} {r : R α} {P Q : α → Mem → Prop} (h : Tri r P) (k : ∀ a m, P a m → Q a m) : Tri r Q := h.mono k
namespace Y
theorem nrm_seq {α : Type} {m : Mem} {n : Nat} {f : α → D} : ∀ {xs : List α}, (∀ x ∈ xs, nrm m n (f x) = some (f x)) → mapO (nrm m n) (xs.map f) = some (xs.map f)
  | [], _ => rfl
  | x :: xs, h => by
    rw [List.map_cons]
    unfold mapO
    rw [h x List.mem_cons_self, nrm_seq fun y hy => h y (List.mem_cons_of_mem _ hy)]
theorem nrm_tup {α : Type} {m : Mem} {n : Nat} {f : α → D} {xs : List α} (h : ∀ x ∈ xs, nrm m n (f x) = some (f x)) (hl : xs.length ≤ 100000) : nrm m (n + 1) (.tup (xs.map f)) = some (.tup (xs.map f)) := by
  simp only [nrm]
  rw [if_pos (by rw [List.length_map]; exact hl), nrm_seq h]
  rfl
theorem nrm_iT {m : Mem} {n : Nat} {xs : List Int} (hl : xs.length ≤ 100000) : nrm m (n + 2) (iT xs) = some (iT xs) := nrm_tup (fun x _ => by simp [nrm]) hl
theorem alike_self {m : Mem} {n : Nat} {d : D} (h : nrm m n d = some d) : m__law_alike n [d, d] m = .ok (.bl true) m := alike_of n d d d h h
theorem word_then {m : Mem} {i : Nat} {P : D → Mem → Prop} (hf : FlowAt m i) (h : ∀ (x : Str) m', Nm x → Flo m m' i → P (.str x) m') : Tri (m__law_word [.ref i] m) P := by
  refine tri_fn rfl ?_
  simp [b__law_word, let_S, b__law_word_s1]
  refine pick_then hf (by decide) (by decide) fun k m1 hk hfl => ?_
  have hn : 1 + (k : Int) = ((1 + k : Nat) : Int) := by simp
  simp [-rng1R_int]
  rw [hn, rng_nat (n := 1 + k) (by omega)]
  simp
  refine (letters_draw (n := 1 + k) hfl.at (by omega) (fun d => rfl) (fun d => rfl)).mono ?_
  rintro _ m2 ⟨cs, rfl, hcs, hlet, hfl2⟩
  have hfl := hfl.trans hfl2
  simp [join_letters (m := m2) (cs := cs) (by omega), b__law_word_s2, gIn_kept]
  by_cases hk : SX.S cs ∈ keptW
  · have hkl := kept_len hk
    rw [SX.S_len] at hkl
    have e1 : cutS (SX.S cs) none (some (-1)) = SX.S cs.dropLast := by
      unfold cutS
      rw [SX.S_len]
      have h1 : HT.sIx cs.length 0 none = 0 := rfl
      have h2 : HT.sIx cs.length cs.length (some (-1)) = cs.length - 1 := by
        unfold HT.sIx
        simp
        omega
      rw [h1, h2]
      show SX.S _ = _
      congr 1
      simp [List.dropLast_eq_take]
    have a1 := fun m => gAdd_str (al := false) (m := m) (x := SX.S cs.dropLast) (y := SX.S [113]) (by rw [SX.S_len, SX.S_len, List.length_dropLast, List.length_singleton]; omega)
    simp [hk, gSl_str (x := SX.S cs) (m := m2) (by rw [SX.S_len]; omega), e1, q_S, a1, b__law_word_s3]
    rw [S_append]
    refine h _ m2 ?_ hfl
    simp only [keptW, List.mem_cons, List.not_mem_nil, or_false] at hk
    have go : ∀ (w : String) (l : List Nat), Str.ofString w = SX.S l → Nm (SX.S (l.dropLast ++ [113])) → SX.S cs = Str.ofString w → Nm (SX.S (cs.dropLast ++ [113])) := fun w l e n q => by
      rw [e] at q
      rw [SX.S_inj q]
      exact n
    rcases hk with q | q | q | q | q
    · exact go "deeds" [100, 101, 101, 100, 115] (by decide +kernel) ⟨by decide, by decide, by decide, by decide +kernel⟩ q
    · exact go "room" [114, 111, 111, 109] (by decide +kernel) ⟨by decide, by decide, by decide, by decide +kernel⟩ q
    · exact go "heap" [104, 101, 97, 112] (by decide +kernel) ⟨by decide, by decide, by decide, by decide +kernel⟩ q
    · exact go "map" [109, 97, 112] (by decide +kernel) ⟨by decide, by decide, by decide, by decide +kernel⟩ q
    · exact go "yard" [121, 97, 114, 100] (by decide +kernel) ⟨by decide, by decide, by decide, by decide +kernel⟩ q
  · simp [hk, b__law_word_s3]
    exact h _ m2 ⟨by rw [SX.S_len]; omega, by rw [SX.S_len]; omega, hlet, hk⟩ hfl
theorem cutD_take (xs : List D) (n : Nat) : cutD xs none (some (n : Nat)) = xs.take n := by
  unfold cutD
  rw [HT.sIx_nat]
  show (xs.drop 0).take (min n xs.length - 0) = _
  rw [List.drop_zero, Nat.sub_zero]
  by_cases h : n ≤ xs.length
  · rw [Nat.min_eq_left h]
  · rw [Nat.min_eq_right (by omega), List.take_of_length_le (Nat.le_refl _), List.take_of_length_le (by omega)]
theorem cutD_drop (xs : List D) (n : Nat) : cutD xs (some (n : Nat)) none = xs.drop n := by
  unfold cutD
  rw [HT.sIx_nat]
  show (xs.drop (min n xs.length)).take (xs.length - min n xs.length) = _
  by_cases h : n ≤ xs.length
  · rw [Nat.min_eq_left h, List.take_of_length_le (by simp)]
  · rw [Nat.min_eq_right (by omega), List.drop_of_length_le (Nat.le_refl _), List.drop_of_length_le (by omega)]
    simp
theorem gSl_lst (xs : List D) (lo hi : Option Int) (m : Mem) : gSl false (.lst xs) lo hi m = .ok (.lst (cutD xs lo hi)) m := rfl
end Y
end Mir

/-! Mir: yards: what can be done at a stand, where it leads. -/
namespace Mir
open PySem PySem.Spec PyProof.Rows L2
theorem firstAt_mem {z : Str} : ∀ {ys : List Str}, z ∈ ys → ∃ j, firstAt z ys = some j ∧ j < ys.length ∧ ys[j]? = some z
  | [], h => by simp at h
  | y :: ys, h => by
    unfold firstAt
    by_cases e : y = z
    · exact ⟨0, by rw [if_pos e], by simp, by simp [e]⟩
    · have h : z ∈ ys := by
        rcases List.mem_cons.mp h with h | h
        · exact absurd h.symm e
        · exact h
      obtain ⟨j, h1, h2, h3⟩ := firstAt_mem h
      exact ⟨j + 1, by rw [if_neg e, h1]; rfl, by simp; omega, by simpa using h3⟩
def ixS (ys : List Str) (z : Str) : Nat := (firstAt z ys).getD 0
theorem ixS_ok {z : Str} {ys : List Str} (h : z ∈ ys) : firstAt z ys = some (ixS ys z) ∧ ixS ys z < ys.length ∧ ys[ixS ys z]? = some z := by
  obtain ⟨j, h1, h2, h3⟩ := firstAt_mem h
  unfold ixS
  rw [h1]
  exact ⟨rfl, h2, h3⟩
theorem mapO_strO (ys : List Str) : mapO strOf (ys.map .str) = some ys := by
  have := mapO_map (f := strOf) (g := D.str) (h := id) (fun _ => rfl) ys
  rw [List.map_id] at this
  exact this
def tk (h : Hea) (k : Nat) : Int := h.t.getD k 0
def lk (h : Hea) (k : Nat) : Int := h.l.getD k 0
theorem gIx_sT {xs : List Str} {k : Nat} {x : Str} (h : xs[k]? = some x) (m : Mem) : gIx (sT xs) (.int (k : Nat)) m = .ok (.str x) m := by
  refine gIx_tup (Y.atI_nat ?_)
  rw [List.getElem?_map, h]
  rfl
/-- all heaps' numbers are as many as deeds -/
def Fit (n : Nat) (hs : List Hea) : Prop := ∀ h ∈ hs, h.t.length = n ∧ h.l.length = n
theorem OkYar.fit {y : Yar} (h : OkYar y) : Fit y.d.length y.h := fun x hx => ⟨(h.hp x hx).tl, (h.hp x hx).ll⟩
def thereB (hs : List Hea) (st : List Int) (k : Nat) : Bool := (st.zip hs).all fun p => decide (tk p.2 k ≤ p.1)
def ledL (hs : List Hea) (st : List Int) (k : Nat) : List Int := (st.zip hs).map fun p => p.1 - tk p.2 k + lk p.2 k
namespace Y
end Y
end Mir

/-! Mir: maps as the laws draw them. -/
namespace Mir
open PySem PySem.Spec PyProof.Rows L2
abbrev Rows' := List (List (Option Nat))
structure Cha where
  n : List Str
  r : Rows'
def oD : Option Nat → D
  | none => .non
  | some k => .int (k : Nat)
def rowD (r : List (Option Nat)) : D := .tup (r.map oD)
def chaD (c : Cha) : D := .tup [sT c.n, .tup (c.r.map rowD)]
def way (r : Rows') (a k b : Nat) : Prop := ∃ x, r[a]? = some x ∧ x[k]? = some (some b)
inductive Com (r : Rows') : Nat → Prop
  | zero : Com r 0
  | step {a k b : Nat} : Com r a → way r a k b → Com r b
structure OkRows (w : Nat) (r : Rows') : Prop where
  pos : 0 < r.length
  wid : ∀ x ∈ r, x.length = w
  rng : ∀ a k b, way r a k b → b < r.length
  com : ∀ b, b < r.length → Com r b
  deed : ∀ k, k < w → ∃ a b, way r a k b
structure OkCha (c : Cha) : Prop where
  nms : Nms c.n
  rows : OkRows c.n.length c.r
/-! ### the rooms in another order -/
def rAt (r : Rows') (a : Nat) : List (Option Nat) := r.getD a []
theorem rAt_eq {r : Rows'} {a : Nat} {x : List (Option Nat)} (h : r[a]? = some x) : rAt r a = x := by unfold rAt; rw [List.getD_eq_getElem?_getD, h]; rfl
theorem rAt_lt {r : Rows'} {a : Nat} (h : a < r.length) : rAt r a = r[a] := rAt_eq (List.getElem?_eq_getElem h)
theorem rAt_mem {r : Rows'} {a : Nat} (h : a < r.length) : rAt r a ∈ r := by rw [rAt_lt h]; exact List.getElem_mem h
def oAt (x : List (Option Nat)) (k : Nat) : Option Nat := x.getD k none
def reRow (ord : List Nat) (x : List (Option Nat)) : List (Option Nat) := x.map (Option.map fun b => ord.idxOf b)
def reR (ord : List Nat) (r : Rows') : Rows' := ord.map fun a => reRow ord (rAt r a)
/-- an order of the rooms: the first one stays -/
structure Ord (n : Nat) (ord : List Nat) : Prop where
  perm : ord.Perm (List.range n)
  head : ord[0]? = some 0
theorem Ord.len {n : Nat} {ord : List Nat} (h : Ord n ord) : ord.length = n := by rw [h.perm.length_eq, List.length_range]
theorem Ord.mem {n : Nat} {ord : List Nat} (h : Ord n ord) {a : Nat} : a ∈ ord ↔ a < n := by rw [h.perm.mem_iff, List.mem_range]
theorem Ord.nd {n : Nat} {ord : List Nat} (h : Ord n ord) : ord.Nodup := h.perm.symm.nodup List.nodup_range
theorem Ord.get {n : Nat} {ord : List Nat} (h : Ord n ord) {a : Nat} (ha : a < n) : ord[ord.idxOf a]? = some a := by
  have hl := List.idxOf_lt_length_iff.mpr (h.mem.mpr ha)
  rw [List.getElem?_eq_getElem hl, List.getElem_idxOf]
theorem Ord.idx {n : Nat} {ord : List Nat} (h : Ord n ord) {j a : Nat} (e : ord[j]? = some a) : ord.idxOf a = j := by
  obtain ⟨hj, rfl⟩ := List.getElem?_eq_some_iff.mp e
  exact h.nd.idxOf_getElem j hj
theorem way_re {ord : List Nat} {r : Rows'} (h : Ord r.length ord) {a k b : Nat} (hb : b < r.length) : way (reR ord r) (ord.idxOf a) k (ord.idxOf b) ↔ (a < r.length → way r a k b) ∧ a < r.length := by
  constructor
  · rintro ⟨x, e1, e2⟩
    have hl : ord.idxOf a < ord.length := by
      have := (List.getElem?_eq_some_iff.mp e1).1
      unfold reR at this
      simpa using this
    have ha : a < r.length := h.mem.mp (List.idxOf_lt_length_iff.mp hl)
    refine ⟨fun _ => ?_, ha⟩
    unfold reR at e1
    rw [List.getElem?_map, h.get ha] at e1
    cases e1
    unfold reRow at e2
    rw [List.getElem?_map] at e2
    have hg : rAt r a = r[a] := rAt_lt ha
    rw [hg] at e2
    refine ⟨r[a], List.getElem?_eq_getElem ha, ?_⟩
    cases hk : r[a][k]? with
    | none => rw [hk] at e2; cases e2
    | some o =>
      rw [hk] at e2
      cases o with
      | none => cases e2
      | some c =>
        have e3 : ord.idxOf c = ord.idxOf b := by simpa using e2
        have hb' := h.get hb
        by_cases hc : c ∈ ord
        · have hc' := h.get (h.mem.mp hc)
          rw [e3, hb'] at hc'
          cases hc'
          rfl
        · have q1 := List.idxOf_lt_length_iff.mpr (h.mem.mpr hb)
          have q2 : ¬ ord.idxOf c < ord.length := fun z => hc (List.idxOf_lt_length_iff.mp z)
          omega
  · rintro ⟨h1, ha⟩
    obtain ⟨x, e1, e2⟩ := h1 ha
    refine ⟨reRow ord x, ?_, ?_⟩
    · unfold reR
      rw [List.getElem?_map, h.get ha]
      show some (reRow ord (rAt r a)) = _
      rw [rAt_eq e1]
    · unfold reRow
      rw [List.getElem?_map, e2]
      rfl
theorem OkRows.re {w : Nat} {r : Rows'} (ok : OkRows w r) {ord : List Nat} (h : Ord r.length ord) : OkRows w (reR ord r) := by
  have len : (reR ord r).length = r.length := by unfold reR; rw [List.length_map, h.len]
  have back : ∀ a k b, way (reR ord r) a k b → ∃ a' b', a = ord.idxOf a' ∧ b = ord.idxOf b' ∧ way r a' k b' := by
    rintro a k b ⟨x, e1, e2⟩
    unfold reR at e1
    rw [List.getElem?_map] at e1
    cases hq : ord[a]? with
    | none => rw [hq] at e1; cases e1
    | some a' =>
      rw [hq] at e1
      cases e1
      have ha : a' < r.length := h.mem.mp (List.mem_of_getElem? hq)
      unfold reRow at e2
      rw [List.getElem?_map] at e2
      have hg : rAt r a' = r[a'] := rAt_lt ha
      rw [hg] at e2
      cases hk : r[a'][k]? with
      | none => rw [hk] at e2; cases e2
      | some o =>
        rw [hk] at e2
        cases o with
        | none => cases e2
        | some c =>
          refine ⟨a', c, (h.idx hq).symm, ?_, r[a'], List.getElem?_eq_getElem ha, hk⟩
          simpa using e2.symm
  have z : ord.idxOf 0 = 0 := h.idx h.head
  have com : ∀ b, Com r b → b < r.length → Com (reR ord r) (ord.idxOf b) := by
    intro b hb
    induction hb with
    | zero => intro _; rw [z]; exact .zero
    | @step a k b ha hw ih =>
      intro hb
      have hal : a < r.length := by obtain ⟨x, e, _⟩ := hw; exact (List.getElem?_eq_some_iff.mp e).1
      exact .step (ih hal) ((way_re h hb).mpr ⟨fun _ => hw, hal⟩)
  refine ⟨by rw [len]; exact ok.pos, fun x hx => ?_, fun a k b hw => ?_, fun b hb => ?_, fun k hk => ?_⟩
  · obtain ⟨a, ha, rfl⟩ := List.mem_map.mp hx
    have ha := h.mem.mp ha
    unfold reRow
    rw [List.length_map]
    exact ok.wid _ (rAt_mem ha)
  · obtain ⟨a', b', _, rfl, hw'⟩ := back a k b hw
    rw [len, ← h.len]
    exact List.idxOf_lt_length_iff.mpr (h.mem.mpr (ok.rng _ _ _ hw'))
  · rw [len] at hb
    have hl : b < ord.length := by rw [h.len]; exact hb
    have hm : ord[b] < r.length := h.mem.mp (List.getElem_mem hl)
    have := com ord[b] (ok.com _ hm) hm
    rw [h.idx (List.getElem?_eq_getElem hl)] at this
    exact this
  · obtain ⟨a, b, hw⟩ := ok.deed k hk
    have hal : a < r.length := by obtain ⟨x, e, _⟩ := hw; exact (List.getElem?_eq_some_iff.mp e).1
    exact ⟨_, _, (way_re h (ok.rng _ _ _ hw)).mpr ⟨fun _ => hw, hal⟩⟩

namespace Y
end Y
/-! ### lists of unlike numbers -/
theorem nodup_len : ∀ (n : Nat) (l : List Nat), l.Nodup → (∀ a ∈ l, a < n) → l.length ≤ n
  | 0, l, _, h => by
    cases l with
    | nil => simp
    | cons a r => exact absurd (h a List.mem_cons_self) (by omega)
  | n + 1, l, nd, h => by
    have h1 := nodup_len n (l.erase n) (nd.erase n) (fun a ha => by
      have h2 := h a (List.mem_of_mem_erase ha)
      have h3 : a ≠ n := (List.Nodup.mem_erase_iff nd |>.mp ha).1
      omega)
    have h2 : l.length ≤ (l.erase n).length + 1 := by
      rw [List.length_erase]
      split <;> omega
    omega
theorem nodup_full {n : Nat} {l : List Nat} (nd : l.Nodup) (h : ∀ a ∈ l, a < n) (hl : l.length = n) {b : Nat} (hb : b < n) : b ∈ l := by
  refine Classical.byContradiction fun hn => ?_
  have := nodup_len n (b :: l) (List.nodup_cons.mpr ⟨hn, nd⟩) (fun a ha => by
    rcases List.mem_cons.mp ha with e | e
    · rw [e]; exact hb
    · exact h a e)
  simp at this
  omega
/-- what was is as it was -/
def Kp (m m' : Mem) : Prop := m.length ≤ m'.length ∧ ∀ j, j < m.length → m'[j]? = m[j]?
theorem Kp.refl (m : Mem) : Kp m m := ⟨Nat.le_refl _, fun _ _ => rfl⟩
theorem Kp.trans {m m1 m2 : Mem} (h : Kp m m1) (k : Kp m1 m2) : Kp m m2 := ⟨Nat.le_trans h.1 k.1, fun j hj => (k.2 j (Nat.lt_of_lt_of_le hj h.1)).trans (h.2 j hj)⟩
theorem Kp.push {m m' : Mem} (h : Kp m m') (c : Cell) : Kp m (m' ++ [c]) := ⟨by rw [List.length_append]; exact Nat.le_trans h.1 (Nat.le_add_right _ _), fun j hj => by rw [List.getElem?_append_left (Nat.lt_of_lt_of_le hj h.1)]; exact h.2 j hj⟩
theorem Kp.put {m m' : Mem} (h : Kp m m') {j : Nat} (hj : m.length ≤ j) (c : Cell) : Kp m (m'.set j c) := ⟨by rw [List.length_set]; exact h.1, fun k hk => by rw [List.getElem?_set_ne (by omega)]; exact h.2 k hk⟩
theorem Kp.get {m m' : Mem} (h : Kp m m') {j : Nat} {c : Cell} (e : m[j]? = some c) : m'[j]? = some c := (h.2 j (List.getElem?_eq_some_iff.mp e).1).trans e
theorem Kp.flo {m m' : Mem} {i : Nat} (h : Kp m m') (hf : FlowAt m i) : Flo m m' i := by
  refine ⟨?_, h.1, fun j _ hj => h.2 j hj⟩
  obtain ⟨l, e, q⟩ := hf
  exact ⟨l, h.get e, q⟩
theorem Flo.kp {m m1 m2 : Mem} {i : Nat} (h : Flo m m1 i) (k : Kp m1 m2) : Flo m m2 i := h.trans (k.flo h.at)
/-- a map as it may be before it is looked at -/
structure PreRows (w : Nat) (r : Rows') : Prop where
  pos : 0 < r.length
  few : r.length ≤ 900
  wf : w ≤ 900
  wid : ∀ x ∈ r, x.length = w
  rng : ∀ a k b, way r a k b → b < r.length
theorem PreRows.row {w : Nat} {r : Rows'} (h : PreRows w r) {a : Nat} (ha : a < r.length) {b : Nat} (hb : some b ∈ rAt r a) : ∃ k, way r a k b := by
  obtain ⟨k, e⟩ := List.mem_iff_getElem?.mp hb
  exact ⟨k, _, by rw [rAt_lt ha]; exact List.getElem?_eq_getElem ha, e⟩
/-- rooms found by a search -/
structure Srch (r : Rows') (ord : List Nat) : Prop where
  nd : ord.Nodup
  pos : 0 < ord.length
  ok : ∀ a ∈ ord, a < r.length ∧ Com r a
theorem Srch.len {r : Rows'} {ord : List Nat} (g : Srch r ord) : ord.length ≤ r.length := nodup_len _ _ g.nd fun a ha => (g.ok a ha).1
theorem Srch.zero {r : Rows'} (h : 0 < r.length) : Srch r [0] := ⟨by simp, by simp, fun a ha => by
  have : a = 0 := by simpa using ha
  rw [this]
  exact ⟨h, .zero⟩⟩
theorem Srch.add {r : Rows'} {ord : List Nat} (g : Srch r ord) {b : Nat} (hb : b ∉ ord) (h1 : b < r.length) (h2 : Com r b) : Srch r (ord ++ [b]) := by
  refine ⟨?_, by simp, fun a ha => ?_⟩
  · rw [List.nodup_append]
    refine ⟨g.nd, by simp, fun a ha c hc => ?_⟩
    have : c = b := by simpa using hc
    rw [this]
    exact fun e => hb (e ▸ ha)
  · rcases List.mem_append.mp ha with ha | ha
    · exact g.ok a ha
    · have : a = b := by simpa using ha
      rw [this]
      exact ⟨h1, h2⟩
namespace Y
end Y

theorem gAdd_tup {xs ys : List D} {al : Bool} {m : Mem} (h : xs.length + ys.length ≤ 1000000) : gAdd al (.tup xs) (.tup ys) m = .ok (.tup (xs ++ ys)) m := by
  show (if xs.length + ys.length ≤ sizeLine then R.ok (D.tup (xs ++ ys)) m else .stk) = _
  rw [if_pos (size_le h)]
theorem ixN_nat {n k : Nat} (h : k < n) : ixN n ((k : Nat) : Int) = some k := by
  unfold ixN
  rw [if_pos (by omega), if_pos (by omega)]
  simp
theorem way_set {r : Rows'} {a k k' : Nat} {b : Nat} {v : Option Nat} {x : List (Option Nat)} (hx : r[a]? = some x) {a' : Nat} (hw : way (r.set a (x.set k v)) a' k' b) : way r a' k' b ∨ v = some b := by
  obtain ⟨y, e1, e2⟩ := hw
  by_cases ha : a = a'
  · subst ha
    have hal := (List.getElem?_eq_some_iff.mp hx).1
    rw [List.getElem?_set_self hal] at e1
    cases e1
    by_cases hk : k = k'
    · subst hk
      by_cases hl : k < x.length
      · rw [List.getElem?_set_self hl] at e2
        exact .inr (Option.some.inj e2)
      · rw [List.getElem?_eq_none (by rw [List.length_set]; omega)] at e2
        cases e2
    · rw [List.getElem?_set_ne hk] at e2
      exact .inl ⟨x, hx, e2⟩
  · rw [List.getElem?_set_ne ha] at e1
    exact .inl ⟨y, e1, e2⟩
namespace Y
end Y
end Mir

/-! Mir: what a yard does, gone through. -/
namespace Mir
open PySem PySem.Spec PyProof.Rows L2
/-! ### tuples of numbers, found in a list -/
/-! ### the stands of a yard -/
/-- stands as found, rows as far as they are written -/
structure Wk (hs : List Hea) (st0 : List Int) (sts : List (List Int)) (rows : Rows') : Prop where
  nd : sts.Nodup
  st0 : sts[0]? = some st0
  row : ∀ (a k : Nat) x o, rows[a]? = some x → x[k]? = some o → ∃ st, sts[a]? = some st ∧ (o = none → thereB hs st k = false) ∧ ∀ b, o = some b → thereB hs st k = true ∧ sts[b]? = some (ledL hs st k)
  com : ∀ b, b < sts.length → b = 0 ∨ ∃ a k, a < b ∧ way rows a k b
theorem Wk.mono {hs : List Hea} {st0 : List Int} {sts : List (List Int)} {rows : Rows'} {x : List (Option Nat)} {o : Option Nat} {extra : List (List Int)} (w : Wk hs st0 sts (rows ++ [x])) {st : List Int} (hst : sts[rows.length]? = some st)
    (hn : o = none → thereB hs st x.length = false) (hb : ∀ b, o = some b → thereB hs st x.length = true ∧ (sts ++ extra)[b]? = some (ledL hs st x.length)) (hnd : (sts ++ extra).Nodup) (hc : ∀ b, sts.length ≤ b → b < (sts ++ extra).length → o = some b) :
    Wk hs st0 (sts ++ extra) (rows ++ [x ++ [o]]) := by
  have up : ∀ (b : Nat) s, sts[b]? = some s → (sts ++ extra)[b]? = some s := fun b s e => by
    rw [List.getElem?_append_left (List.getElem?_eq_some_iff.mp e).1]; exact e
  have hr : rows.length < sts.length := (List.getElem?_eq_some_iff.mp hst).1
  have ways : ∀ a k b, way (rows ++ [x]) a k b → way (rows ++ [x ++ [o]]) a k b := fun a k b ⟨y, e1, e2⟩ => by
    by_cases ha : a < rows.length
    · rw [List.getElem?_append_left ha] at e1
      exact ⟨y, by rw [List.getElem?_append_left ha]; exact e1, e2⟩
    · have hl := (List.getElem?_eq_some_iff.mp e1).1
      simp at hl
      have : a = rows.length := by omega
      subst this
      simp at e1
      subst e1
      refine ⟨x ++ [o], by simp, ?_⟩
      rw [List.getElem?_append_left (List.getElem?_eq_some_iff.mp e2).1]
      exact e2
  refine ⟨hnd, up _ _ w.st0, fun a k y o' e1 e2 => ?_, fun b hb' => ?_⟩
  · by_cases ha : a < rows.length
    · rw [List.getElem?_append_left ha] at e1
      obtain ⟨s, h1, h2, h3⟩ := w.row a k y o' (by rw [List.getElem?_append_left ha]; exact e1) e2
      exact ⟨s, up _ _ h1, h2, fun b e => ⟨(h3 b e).1, up _ _ (h3 b e).2⟩⟩
    · have hl := (List.getElem?_eq_some_iff.mp e1).1
      simp at hl
      have : a = rows.length := by omega
      subst this
      simp at e1
      subst e1
      by_cases hk : k < x.length
      · rw [List.getElem?_append_left hk] at e2
        obtain ⟨s, h1, h2, h3⟩ := w.row rows.length k x o' (by simp) e2
        exact ⟨s, up _ _ h1, h2, fun b e => ⟨(h3 b e).1, up _ _ (h3 b e).2⟩⟩
      · have hkl := (List.getElem?_eq_some_iff.mp e2).1
        simp at hkl
        have : k = x.length := by omega
        subst this
        simp at e2
        subst e2
        exact ⟨st, up _ _ hst, hn, hb⟩
  · by_cases hl : b < sts.length
    · rcases w.com b hl with h | ⟨a, k, h1, h2⟩
      · exact .inl h
      · exact .inr ⟨a, k, h1, ways _ _ _ h2⟩
    · refine .inr ⟨rows.length, x.length, by omega, x ++ [o], by simp, ?_⟩
      rw [hc b (by omega) hb']
      simp
theorem Wk.nil {hs : List Hea} {st0 : List Int} {sts : List (List Int)} {rows : Rows'} (w : Wk hs st0 sts rows) : Wk hs st0 sts (rows ++ [[]]) := by
  refine ⟨w.nd, w.st0, fun a k y o' e1 e2 => ?_, fun b hb => ?_⟩
  · by_cases ha : a < rows.length
    · rw [List.getElem?_append_left ha] at e1
      exact w.row a k y o' e1 e2
    · have hl := (List.getElem?_eq_some_iff.mp e1).1
      simp at hl
      have : a = rows.length := by omega
      subst this
      simp at e1
      subst e1
      simp at e2
  · rcases w.com b hb with h | ⟨a, k, h1, y, e1, e2⟩
    · exact .inl h
    · exact .inr ⟨a, k, h1, y, by rw [List.getElem?_append_left (List.getElem?_eq_some_iff.mp e1).1]; exact e1, e2⟩

def lzR (al : Bool) (x y : D) (m : Mem) : R D := match rdS1 x m, rdS1 y m with
  | some xs, some ys => mkL al (zipW xs ys) m
  | _, _ => .stk
@[simp] theorem ap_listZip (al : Bool) (a b : EM) (η : Env') (m : Mem) : mListZip al a b η m = (a η m).bind fun x m1 => (b η m1).bind fun y m2 => lzR al x y m2 := nr rfl
@[simp] theorem lzR_tt (al : Bool) (xs ys : List D) (m : Mem) : lzR al (.tup xs) (.tup ys) m = mkL al (zipD xs ys) m := nr rfl
namespace Y
end Y

/-! ### the map that a yard does -/
def nAt (ns : List Str) (k : Nat) : Str := ns.getD k (Str.ofString "")
theorem nAt_lt {ns : List Str} {k : Nat} (h : k < ns.length) : ns[k]? = some (nAt ns k) := by
  unfold nAt
  rw [List.getD_eq_getElem?_getD, List.getElem?_eq_getElem h]
  rfl
theorem oAt_eq {x : List (Option Nat)} {k : Nat} {o : Option Nat} (h : x[k]? = some o) : oAt x k = o := by
  unfold oAt
  rw [List.getD_eq_getElem?_getD, h]
  rfl
theorem oAt_get {x : List (Option Nat)} {k : Nat} (h : k < x.length) : x[k]? = some (oAt x k) := by
  unfold oAt
  rw [List.getD_eq_getElem?_getD, List.getElem?_eq_getElem h]
  rfl
theorem Nms.sub {ns ms : List Str} (h : Nms ns) (s : ms.Sublist ns) : Nms ms := ⟨fun x hx => h.nm x (s.subset hx), h.up.sublist s⟩
namespace Y
end Y
end Mir

/-! Mir: maps that are drawn row by row. -/
namespace Mir
open PySem PySem.Spec PyProof.Rows L2
/-! ### rows kept as cells -/
def refs (j n : Nat) : List D := (List.range n).map fun a => D.ref (j + a)
structure RowsAt (m : Mem) (j : Nat) (r : Rows') : Prop where
  at' : ∀ a x, r[a]? = some x → m[j + a]? = some (.lst (x.map oD))
def setR (r : Rows') (a k : Nat) (v : Option Nat) : Rows' := r.set a ((rAt r a).set k v)
theorem setR_len (r : Rows') (a k : Nat) (v : Option Nat) : (setR r a k v).length = r.length := List.length_set
theorem setR_wid {w : Nat} {r : Rows'} (h : ∀ x ∈ r, x.length = w) {a k : Nat} {v : Option Nat} (ha : a < r.length) : ∀ x ∈ setR r a k v, x.length = w := fun x hx => by
  rcases List.mem_or_eq_of_mem_set hx with hx | hx
  · exact h x hx
  · rw [hx, List.length_set]; exact h _ (rAt_mem ha)
theorem rAt_some {r : Rows'} {a : Nat} (ha : a < r.length) : r[a]? = some (rAt r a) := by rw [rAt_lt ha]; exact List.getElem?_eq_getElem ha
theorem setR_back {r : Rows'} {a k a' k' b : Nat} {v : Option Nat} (ha : a < r.length) (hw : way (setR r a k v) a' k' b) : way r a' k' b ∨ v = some b := way_set (rAt_some ha) hw
theorem setR_rng {r : Rows'} {a k b : Nat} (ha : a < r.length) (h : ∀ a' k' b', way r a' k' b' → b' < r.length) (hb : b < r.length) : ∀ a' k' b', way (setR r a k (some b)) a' k' b' → b' < (setR r a k (some b)).length := fun a' k' b' hw => by
  rw [setR_len]
  rcases setR_back ha hw with hw | e
  · exact h _ _ _ hw
  · cases e; exact hb
theorem RowsAt.set {m : Mem} {j : Nat} {r : Rows'} (h : RowsAt m j r) {a k : Nat} {v : Option Nat} (ha : a < r.length) (hk : k < (rAt r a).length) :
    gSet (.ref (j + a)) (.int (k : Nat)) (oD v) m = .ok () (m.set (j + a) (.lst (((rAt r a).set k v).map oD))) ∧ RowsAt (m.set (j + a) (.lst (((rAt r a).set k v).map oD))) j (setR r a k v) := by
  have hx := h.at' a _ (rAt_some ha)
  constructor
  · have := gSet_ref (d := oD v) hx (ixN_nat (n := ((rAt r a).map oD).length) (k := k) (by rw [List.length_map]; exact hk))
    rw [← List.map_set] at this
    exact this
  · refine ⟨fun a' x e => ?_⟩
    by_cases q : a' = a
    · subst q
      unfold setR at e
      rw [List.getElem?_set_self ha] at e
      cases e
      rw [List.getElem?_set_self (List.getElem?_eq_some_iff.mp hx).1]
    · unfold setR at e
      rw [List.getElem?_set_ne (fun z => q z.symm)] at e
      rw [List.getElem?_set_ne (by omega)]
      exact h.at' a' x e
theorem RowsAt.flo {m m' : Mem} {i j : Nat} {r : Rows'} (h : RowsAt m j r) (k : Flo m m' i) (hi : i < j) : RowsAt m' j r := ⟨fun a x e => k.get (by omega) (h.at' a x e)⟩
theorem RowsAt.kp {m m' : Mem} {j : Nat} {r : Rows'} (h : RowsAt m j r) (k : Kp m m') : RowsAt m' j r := ⟨fun a x e => k.get (h.at' a x e)⟩
theorem RowsAt.get {m : Mem} {j : Nat} {r : Rows'} (h : RowsAt m j r) {a k : Nat} (ha : a < r.length) (hk : k < (rAt r a).length) : gIx (.ref (j + a)) (.int (k : Nat)) m = .ok (oD (oAt (rAt r a) k)) m := by
  refine gIx_ref (h.at' a _ (rAt_some ha)) (Y.atI_nat ?_)
  rw [List.getElem?_map, oAt_get hk]
  rfl
theorem RowsAt.tuples {m : Mem} {j n : Nat} {r : Rows'} {η : Env'} {v : Nat} (h : RowsAt m j r) (hn : r.length = n) (hl : n ≤ 900) (hv : v < η.length) :
    compD (gNm v) mYes (mCB bTuple (mCons (mVar v) mNil)) η (refs j n) m [] = .ok (r.map rowD) m := by
  unfold refs
  rw [comp_mapT (fun a : Nat => D.ref (j + a)) (fun a => rowD (rAt r a)) (List.range n) [] (fun a ha => by
    have ha : a < r.length := by rw [hn]; exact List.mem_range.mp ha
    refine ⟨_, rfl, rfl, ?_⟩
    have e : (η.set v (some (D.ref (j + a))))[v]? = some (some (D.ref (j + a))) := List.getElem?_set_self hv
    simp [mVar, varR, e, tuple_ref (h.at' a _ (rAt_some ha)), rowD]) (by simp; omega)]
  congr 1
  refine List.ext_getElem? fun a => ?_
  by_cases ha : a < n
  · rw [List.nil_append, List.getElem?_map, List.getElem?_range ha, List.getElem?_map, rAt_some (by omega)]
    rfl
  · rw [List.getElem?_eq_none (by simp; omega), List.getElem?_eq_none (by simp; omega)]

theorem RowsAt.put {m0 m : Mem} {i j : Nat} {r : Rows'} (h : RowsAt m j r) (hfl : Flo m0 m i) (hj : m0.length ≤ j) (hij : i < j) {a k : Nat} (v : Option Nat) (ha : a < r.length) (hk : k < (rAt r a).length) :
    ∃ m', gSet (.ref (j + a)) (.int (k : Nat)) (oD v) m = .ok () m' ∧ RowsAt m' j (setR r a k v) ∧ Flo m0 m' i := by
  obtain ⟨s1, s2⟩ := h.set (v := v) ha hk
  exact ⟨_, s1, s2, hfl.put (by omega) (by omega) _⟩
theorem RowsAt.new {m : Mem} {n : Nat} {x : List (Option Nat)} : RowsAt (m ++ List.replicate n (Cell.lst (x.map oD))) m.length (List.replicate n x) := ⟨fun a y e => by
  rw [List.getElem?_replicate] at e
  split at e
  · rename_i ha
    cases e
    rw [List.getElem?_append_right (by omega), Nat.add_sub_cancel_left, List.getElem?_replicate, if_pos ha]
  · cases e⟩
theorem Kp.many {m : Mem} (cs : List Cell) : Kp m (m ++ cs) := ⟨by simp, fun j hj => List.getElem?_append_left hj⟩
/-- rows with nothing in them yet -/
structure Raw (w n : Nat) (r : Rows') : Prop where
  len : r.length = n
  wid : ∀ x ∈ r, x.length = w
  rng : ∀ a k b, way r a k b → b < r.length
theorem Raw.new (w n : Nat) : Raw w n (List.replicate n (List.replicate w none)) := by
  refine ⟨by simp, fun x hx => ?_, fun a k b hw => ?_⟩
  · rw [(List.mem_replicate.mp hx).2]; simp
  · obtain ⟨x, e1, e2⟩ := hw
    rw [(List.mem_replicate.mp (List.mem_of_getElem? e1)).2] at e2
    have := (List.mem_replicate.mp (List.mem_of_getElem? e2)).2
    cases this
theorem Raw.set {w n : Nat} {r : Rows'} (h : Raw w n r) {a k b : Nat} (ha : a < n) (hb : b < n) : Raw w n (setR r a k (some b)) :=
  ⟨by rw [setR_len]; exact h.len, setR_wid h.wid (by rw [h.len]; exact ha), setR_rng (by rw [h.len]; exact ha) h.rng (by rw [h.len]; exact hb)⟩
theorem Raw.row {w n : Nat} {r : Rows'} (h : Raw w n r) {a : Nat} (ha : a < n) : (rAt r a).length = w := h.wid _ (rAt_mem (by rw [h.len]; exact ha))
/-- two rows of deeds from the first room to the last one -/
structure Two (one many : Nat) (r : Rows') : Prop where
  f0 : ∀ a, a < one → way r a 0 (if a + 1 = one then many - 1 else a + 1)
  f1 : way r 0 1 one
  f2 : ∀ a, one ≤ a → a + 1 < many → way r a 1 (a + 1)
theorem Two.ok {one many : Nat} {r : Rows'} (t : Two one many r) (raw : Raw 2 many r) (h1 : 1 ≤ one) (h2 : one < many) : OkRows 2 r := by
  have c0 : ∀ b, b < one → Com r b := by
    intro b
    induction b with
    | zero => intro _; exact .zero
    | succ b ih =>
      intro hb
      have := t.f0 b (by omega)
      rw [if_neg (by omega)] at this
      exact .step (ih (by omega)) this
  have c1 : ∀ k, one + k < many → Com r (one + k) := by
    intro k
    induction k with
    | zero => intro _; exact .step .zero t.f1
    | succ k ih => intro hk; exact .step (ih (by omega)) (t.f2 (one + k) (by omega) (by omega))
  refine ⟨by rw [raw.len]; omega, raw.wid, raw.rng, fun b hb => ?_, fun k hk => ?_⟩
  · rw [raw.len] at hb
    by_cases q : b < one
    · exact c0 b q
    · have := c1 (b - one) (by omega)
      rw [show one + (b - one) = b by omega] at this
      exact this
  · have : k = 0 ∨ k = 1 := by omega
    rcases this with rfl | rfl
    · exact ⟨_, _, t.f0 0 (by omega)⟩
    · exact ⟨_, _, t.f1⟩
namespace Y
end Y
end Mir

/-! Mir: any map. -/
namespace Mir
open PySem PySem.Spec PyProof.Rows L2
theorem Com.mono {r r' : Rows'} (h : ∀ a k b, way r a k b → way r' a k b) {b : Nat} (c : Com r b) : Com r' b := by
  induction c with
  | zero => exact .zero
  | step _ hw ih => exact .step ih (h _ _ _ hw)
/-- rows that are drawn, kept in cells beside the flow -/
structure Dr (m m' : Mem) (i j w n : Nat) (r : Rows') : Prop where
  fl : Flo m m' i
  ro : RowsAt m' j r
  raw : Raw w n r
namespace Y
section
variable {m : Mem} {i j w n : Nat} {P : D → Mem → Prop} {N : Env' → Mem → Prop} {e1 e2 : Option D}
theorem RowsAt.lt {m : Mem} {j : Nat} {r : Rows'} (h : RowsAt m j r) {a : Nat} (ha : a < r.length) : j + a < m.length := (List.getElem?_eq_some_iff.mp (h.at' a _ (rAt_some ha))).1
end
end Y
end Mir

/-! Mir: the ways of a map, levels. -/
namespace Mir
open PySem PySem.Spec PyProof.Rows L2
/-! ### all ways of a map -/
def wayOf (a : Nat) (x : List (Option Nat)) : List (Nat × Nat × Nat) := x.zipIdx.filterMap fun p => p.1.map fun b => (a, p.2, b)
def wayL (r : Rows') : List (Nat × Nat × Nat) := r.zipIdx.flatMap fun p => wayOf p.2 p.1
theorem wayL_mem {r : Rows'} {a k b : Nat} : (a, k, b) ∈ wayL r ↔ way r a k b := by
  unfold wayL wayOf way
  simp only [List.mem_flatMap, List.mem_filterMap]
  constructor
  · rintro ⟨⟨x, a'⟩, hx, ⟨⟨o, k'⟩, ho, e⟩⟩
    have h1 := List.mem_zipIdx_iff_getElem?.mp hx
    have h2 := List.mem_zipIdx_iff_getElem?.mp ho
    cases o with
    | none => cases e
    | some b' =>
      have : (a', k', b') = (a, k, b) := by simpa using e
      cases this
      exact ⟨x, h1, h2⟩
  · rintro ⟨x, e1, e2⟩
    exact ⟨(x, a), List.mem_zipIdx_iff_getElem?.mpr e1, (some b, k), List.mem_zipIdx_iff_getElem?.mpr e2, rfl⟩

namespace Y
end Y
end Mir

/-! Mir: levels. -/
namespace Mir
open PySem PySem.Spec PyProof.Rows L2
def fAt (f : List (Option Int)) (a : Nat) : Option Int := f.getD a none
theorem fAt_set {f : List (Option Int)} {a b : Nat} {v : Option Int} (h : b < f.length) : fAt (f.set b v) a = if a = b then v else fAt f a := by
  unfold fAt
  rw [List.getD_eq_getElem?_getD, List.getD_eq_getElem?_getD]
  by_cases e : a = b
  · subst e
    rw [if_pos rfl, List.getElem?_set_self h]
    rfl
  · rw [if_neg e, List.getElem?_set_ne (fun q => e q.symm)]
structure IsLev (r : Rows') (e L : Nat → Int) : Prop where
  z : L 0 = 0
  w : ∀ a k b, way r a k b → L b = L a + e k
theorem IsLev.uniq {r : Rows'} {e L L' : Nat → Int} (h : IsLev r e L) (h' : IsLev r e L') {b : Nat} (c : Com r b) : L b = L' b := by
  induction c with
  | zero => rw [h.z, h'.z]
  | step _ hw ih => rw [h.w _ _ _ hw, h'.w _ _ _ hw, ih]
/-- levels found so far -/
structure Fnd (r : Rows') (e : Nat → Int) (f : List (Option Int)) : Prop where
  len : f.length = r.length
  z : fAt f 0 = some 0
  ok : ∀ L, IsLev r e L → ∀ a v, fAt f a = some v → v = L a
theorem Fnd.set {r : Rows'} {e : Nat → Int} {f : List (Option Int)} (h : Fnd r e f) {a k b : Nat} {v : Int} (hw : way r a k b) (hb : b < r.length) (hv : fAt f a = some v) (hn : fAt f b = none) : Fnd r e (f.set b (some (v + e k))) := by
  have hbl : b < f.length := by rw [h.len]; exact hb
  refine ⟨by rw [List.length_set]; exact h.len, ?_, fun L hL x y hy => ?_⟩
  · rw [fAt_set hbl, if_neg (fun q => by rw [← q, h.z] at hn; cases hn)]
    exact h.z
  · rw [fAt_set hbl] at hy
    by_cases q : x = b
    · rw [if_pos q] at hy
      cases hy
      rw [q, hL.w a k b hw, h.ok L hL a v hv]
    · rw [if_neg q] at hy
      exact h.ok L hL x y hy
/-- a place that is next: come to from what is found, not found yet -/
theorem next_of {r : Rows'} {p : Nat → Prop} (h0 : p 0) {b : Nat} (c : Com r b) (hb : ¬ p b) : ∃ a k b', way r a k b' ∧ p a ∧ ¬ p b' := by
  induction c with
  | zero => exact absurd h0 hb
  | @step a k b _ hw ih =>
    by_cases ha : p a
    · exact ⟨a, k, b, hw, ha, hb⟩
    · exact ih ha
/-- as many as rounds, or all -/
def Many (n t : Nat) (f : List (Option Int)) : Prop := (∀ b, b < n → fAt f b ≠ none) ∨ ∃ S : List Nat, S.Nodup ∧ (∀ a ∈ S, a < n ∧ fAt f a ≠ none) ∧ t + 1 ≤ S.length
theorem Many.step {r : Rows'} {n t : Nat} {f f' : List (Option Int)} (h : Many n t f) (hn : r.length = n) (rng : ∀ a k b, way r a k b → b < r.length) (com : ∀ b, b < n → Com r b) (z : fAt f 0 ≠ none) (up : ∀ a, fAt f a ≠ none → fAt f' a ≠ none) (go : ∀ a k b, way r a k b → fAt f a ≠ none → fAt f' b ≠ none) : Many n (t + 1) f' := by
  by_cases all : ∀ b, b < n → fAt f b ≠ none
  · exact .inl fun b hb => up b (all b hb)
  · rcases h with h | ⟨S, h1, h2, h3⟩
    · exact absurd h all
    · have hex : ∃ b, b < n ∧ ¬ fAt f b ≠ none := by
        refine Classical.byContradiction fun q => all fun b hb => ?_
        exact Classical.byContradiction fun q2 => q ⟨b, hb, q2⟩
      obtain ⟨b, hb, hnb⟩ := hex
      obtain ⟨a, k, b', hw, ha, hb'⟩ := next_of (p := fun a => fAt f a ≠ none) z (com b hb) hnb
      refine .inr ⟨b' :: S, List.nodup_cons.mpr ⟨fun hm => hb' (h2 b' hm).2, h1⟩, fun x hx => ?_, by simp; omega⟩
      rcases List.mem_cons.mp hx with e | hx
      · rw [e]; exact ⟨by rw [← hn]; exact rng _ _ _ hw, go _ _ _ hw ha⟩
      · exact ⟨(h2 x hx).1, up x (h2 x hx).2⟩
theorem Many.all {n t : Nat} {f : List (Option Int)} (h : Many n t f) (ht : n ≤ t) : ∀ b, b < n → fAt f b ≠ none := by
  rcases h with h | ⟨S, h1, h2, h3⟩
  · exact h
  · have := nodup_len n S h1 fun a ha => (h2 a ha).1
    omega

theorem way_wid {w : Nat} {r : Rows'} (h : ∀ x ∈ r, x.length = w) {a k b : Nat} (hw : way r a k b) : a < r.length ∧ k < w := by
  obtain ⟨x, e1, e2⟩ := hw
  refine ⟨(List.getElem?_eq_some_iff.mp e1).1, ?_⟩
  rw [← h x (List.mem_of_getElem? e1)]
  exact (List.getElem?_eq_some_iff.mp e2).1
namespace Y
end Y
end Mir

/-! Mir: the program's levels. -/
namespace Mir
open PySem PySem.Spec PyProof.Rows L2
/-- a way that is told by what is found -/
def Told (r : Rows') (e : Nat → Int) (f : List (Option Int)) (a k b : Nat) : Prop := ∃ v, fAt f a = some v ∧ fAt f b = some (v + e k)
theorem Told.set {r : Rows'} {e : Nat → Int} {f : List (Option Int)} {a k b x : Nat} {u : Option Int} (h : Told r e f a k b) (hx : x < f.length) (hn : fAt f x = none) : Told r e (f.set x u) a k b := by
  obtain ⟨v, h1, h2⟩ := h
  refine ⟨v, ?_, ?_⟩
  · rw [fAt_set hx, if_neg (fun q => by rw [q, hn] at h1; cases h1)]; exact h1
  · rw [fAt_set hx, if_neg (fun q => by rw [q, hn] at h2; cases h2)]; exact h2
/-- a search for levels -/
structure Sr (r : Rows') (e : Nat → Int) (f : List (Option Int)) (ord : List Nat) (at' : Nat) : Prop where
  fnd : Fnd r e f
  srch : Srch r ord
  iff : ∀ a, fAt f a ≠ none ↔ a ∈ ord
  told : ∀ p a k b, p < at' → ord[p]? = some a → way r a k b → Told r e f a k b
namespace Y
end Y
end Mir

/-! Mir: effects and heaps that are drawn for a map. -/
namespace Mir
open PySem PySem.Spec PyProof.Rows L2
def eAt (es : List Int) (k : Nat) : Int := es.getD k 0
structure Effs (n : Nat) (b : Int) (es : List Int) : Prop where
  len : es.length = n
  rng : ∀ x ∈ es, -b ≤ x ∧ x ≤ b
namespace Y
end Y
end Mir

/-! Mir: effects of heaps, counts, lists and tuples made of one another. -/
namespace Mir
namespace Y
open PySem PySem.Spec PyProof.Rows L2 Mir
theorem tri_map {α : Type} {g : GM} {t : TM} {e : EM} {η : Env'} {m : Mem} {P : List D → Mem → Prop} (emb f : α → D) (xs : List α) (h : ∀ x ∈ xs, ∃ η1, g (emb x) η m = .ok η1 m ∧ t η1 m = .ok true m ∧ e η1 m = .ok (f x) m) (hl : xs.length ≤ 1000000) (hP : P (xs.map f) m) : Tri (compD g t e η (xs.map emb) m []) P := by
  rw [comp_mapT emb f xs [] h (by simpa using hl)]
  exact hP
theorem sl_ref {m : Mem} {j : Nat} {l : List D} {lo hi : Option Int} (h : m[j]? = some (.lst l)) : gSl false (.ref j) lo hi m = .ok (.lst (cutD l lo hi)) m := by
  simp [gSl, lstOf, h, lR, lstC]
def effL (h : Hea) : List Int := (h.t.zip h.l).map fun p => p.2 - p.1
theorem effL_at {h : Hea} {n k : Nat} (h1 : h.t.length = n) (h2 : h.l.length = n) (hk : k < n) : eAt (effL h) k = lk h k - tk h k := by
  unfold eAt effL lk tk
  rw [List.getD_eq_getElem?_getD, List.getD_eq_getElem?_getD, List.getD_eq_getElem?_getD, List.getElem?_map, List.getElem?_eq_getElem (show k < (h.t.zip h.l).length by rw [List.length_zip]; omega), List.getElem_zip, List.getElem?_eq_getElem (show k < h.t.length by omega), List.getElem?_eq_getElem (show k < h.l.length by omega)]
  rfl
theorem gIx_hea1 (h : Hea) (m : Mem) : gIx (heaD h) (.int 1) m = .ok (iT h.t) m := by simp [heaD]
theorem gIx_hea2 (h : Hea) (m : Mem) : gIx (heaD h) (.int 2) m = .ok (iT h.l) m := by simp [heaD]
/-- the counts of a heap -/
def cntH (h : Hea) (L : Nat → Int) : Nat → Int := fun a => h.s + L a
end Y
end Mir

/-! Mir: lows, plain: rounds over all ways. -/
namespace Mir
namespace Y
open PySem PySem.Spec PyProof.Rows L2 Mir
/-- a row from room 0 that comes to a room with a sum -/
inductive Pth (r : Rows') (e : Nat → Int) : Nat → Int → Prop
  | zero : Pth r e 0 0
  | step {a k b : Nat} {s : Int} : Pth r e a s → way r a k b → Pth r e b (s + e k)
structure IsLow (r : Rows') (e L : Nat → Int) : Prop where
  z : L 0 = 0
  w : ∀ a k b, way r a k b → L b ≤ L a + e k
  p : ∀ a, a < r.length → Pth r e a (L a)
theorem IsLow.le {r : Rows'} {e L : Nat → Int} (h : IsLow r e L) {a : Nat} {s : Int} (p : Pth r e a s) : L a ≤ s := by
  induction p with
  | zero => rw [h.z]; exact Int.le_refl _
  | step _ hw ih => have := h.w _ _ _ hw; omega
theorem IsLow.uniq {r : Rows'} {e L L' : Nat → Int} (h : IsLow r e L) (h' : IsLow r e L') {a : Nat} (ha : a < r.length) : L a = L' a := by
  have h1 := h.le (h'.p a ha)
  have h2 := h'.le (h.p a ha)
  omega
theorem IsLev.pth {r : Rows'} {e L : Nat → Int} (h : IsLev r e L) {a : Nat} {s : Int} (p : Pth r e a s) : s = L a := by
  induction p with
  | zero => rw [h.z]
  | step _ hw ih => rw [h.w _ _ _ hw, ih]
theorem Com.pth {r : Rows'} (e : Nat → Int) {b : Nat} (c : Com r b) : ∃ s, Pth r e b s := by
  induction c with
  | zero => exact ⟨0, .zero⟩
  | step _ hw ih => obtain ⟨s, p⟩ := ih; exact ⟨_, p.step hw⟩
theorem IsLev.low {r : Rows'} {e L : Nat → Int} (h : IsLev r e L) (com : ∀ b, b < r.length → Com r b) : IsLow r e L :=
  ⟨h.z, fun a k b hw => by rw [h.w _ _ _ hw]; exact Int.le_refl _, fun a ha => by
    obtain ⟨s, p⟩ := Com.pth e (com a ha)
    rw [← IsLev.pth h p]
    exact p⟩
/-- one way looked at -/
def rel (e : Nat → Int) (s : List (Option Int) × Bool) (w : Nat × Nat × Nat) : List (Option Int) × Bool :=
  match fAt s.1 w.1 with
  | none => s
  | some v => match fAt s.1 w.2.2 with
    | none => (s.1.set w.2.2 (some (v + e w.2.1)), true)
    | some u => if v + e w.2.1 < u then (s.1.set w.2.2 (some (v + e w.2.1)), true) else s
/-- what stands in the list are sums of rows -/
structure Sums (r : Rows') (e : Nat → Int) (f : List (Option Int)) : Prop where
  len : f.length = r.length
  ok : ∀ a v, fAt f a = some v → Pth r e a v
  z : ∃ v, fAt f 0 = some v ∧ v ≤ 0
section
variable {r : Rows'} {e : Nat → Int}
/-- numbers only fall -/
def Lower (f f' : List (Option Int)) : Prop := ∀ a v, fAt f a = some v → ∃ v', fAt f' a = some v' ∧ v' ≤ v
theorem Lower.refl (f : List (Option Int)) : Lower f f := fun a v h => ⟨v, h, Int.le_refl _⟩
theorem Lower.trans {f g h : List (Option Int)} (a : Lower f g) (b : Lower g h) : Lower f h := fun x v hv => by
  obtain ⟨v1, h1, l1⟩ := a x v hv
  obtain ⟨v2, h2, l2⟩ := b x v1 h1
  exact ⟨v2, h2, by omega⟩
/-- so many are done -/
def ManyP (n t : Nat) (p : Nat → Prop) : Prop := (∀ b, b < n → p b) ∨ ∃ S : List Nat, S.Nodup ∧ (∀ a ∈ S, a < n ∧ p a) ∧ t + 1 ≤ S.length
theorem ManyP.step {n t : Nat} {p p' : Nat → Prop} (h : ManyP n t p) (up : ∀ a, p a → p' a) (go : (∃ b, b < n ∧ ¬ p b) → ∃ b, b < n ∧ ¬ p b ∧ p' b) : ManyP n (t + 1) p' := by
  rcases h with h | ⟨S, nd, hS, hl⟩
  · exact .inl fun b hb => up b (h b hb)
  · by_cases hex : ∃ b, b < n ∧ ¬ p b
    · obtain ⟨b, hb, hn, hp⟩ := go hex
      refine .inr ⟨b :: S, List.nodup_cons.mpr ⟨fun hm => hn (hS b hm).2, nd⟩, fun a ha => ?_, by simp; omega⟩
      rcases List.mem_cons.mp ha with rfl | ha
      · exact ⟨hb, hp⟩
      · exact ⟨(hS a ha).1, up a (hS a ha).2⟩
    · refine .inl fun b hb => up b ?_
      by_cases h : p b
      · exact h
      · exact absurd ⟨b, hb, h⟩ hex
theorem ManyP.all {n t : Nat} {p : Nat → Prop} (h : ManyP n t p) (ht : n ≤ t + 1) : ∀ b, b < n → p b := by
  rcases h with h | ⟨S, nd, hS, hl⟩
  · exact h
  · intro b hb
    have h1 := nodup_len n S nd fun a ha => (hS a ha).1
    exact (hS b (nodup_full nd (fun a ha => (hS a ha).1) (by omega) hb)).2
/-- the rooms that have their low -/
def Fin (L : Nat → Int) (f : List (Option Int)) (a : Nat) : Prop := fAt f a = some (L a)
end
end Y
end Mir

/-! Mir: lows, by the law and by the program. -/
namespace Mir
namespace Y
open PySem PySem.Spec PyProof.Rows L2 Mir
end Y
end Mir

/-! Mir: lows by the program. -/
namespace Mir
namespace Y
open PySem PySem.Spec PyProof.Rows L2 Mir
end Y
end Mir

/-! Mir: the least of numbers; tight heaps. -/
namespace Mir
namespace Y
open PySem PySem.Spec PyProof.Rows L2 Mir
theorem minL_ok {xs : List Int} (h : xs ≠ []) : ∃ v, minL xs = some v ∧ v ∈ xs ∧ ∀ y ∈ xs, v ≤ y := by
  cases xs with
  | nil => exact absurd rfl h
  | cons x xs => exact ⟨_, rfl, minL_fold xs x⟩
def mn (xs : List Int) : Int := (minL xs).getD 0
def mx (xs : List Int) : Int := (maxL xs).getD 0
theorem mn_ok {xs : List Int} (h : xs ≠ []) : mn xs ∈ xs ∧ ∀ y ∈ xs, mn xs ≤ y := by
  obtain ⟨v, e, h1⟩ := minL_ok h
  unfold mn
  rw [e]
  exact h1
theorem mapO_int (xs : List Int) : mapO intOf (xs.map .int) = some xs := by
  have := mapO_map (f := intOf) (g := D.int) (h := fun i : Int => i) (fun _ => rfl) xs
  rwa [List.map_id'] at this
theorem sel_min {m : Mem} {d : D} {xs : List Int} (hs : seqOf m d = some (xs.map .int)) (h : xs ≠ []) : bSel minL [d] m = .ok (.int (mn xs)) m := by
  obtain ⟨v, e, _⟩ := minL_ok h
  simp only [bSel, hs, Option.bind_some, mapO_int, mn, e, Option.getD_some]
theorem seq_ref {m : Mem} {j : Nat} {l : List D} (h : m[j]? = some (.lst l)) : seqOf m (.ref j) = some l := by
  show lstC m[j]? = _
  rw [h]
  rfl
/-- the rooms that have a way by a deed -/
def hasW (r : Rows') (k : Nat) (a : Nat) : Bool := (oAt (rAt r a) k).isSome
theorem hasW_iff {r : Rows'} {k a : Nat} : hasW r k a = true ↔ ∃ b, way r a k b := by
  unfold hasW way oAt
  constructor
  · intro h
    cases hx : r[a]? with
    | none =>
      rw [show rAt r a = [] by unfold rAt; rw [List.getD_eq_getElem?_getD, hx]; rfl] at h
      simp at h
    | some x =>
      rw [rAt_eq hx, List.getD_eq_getElem?_getD] at h
      cases hk : x[k]? with
      | none => rw [hk] at h; simp at h
      | some o =>
        rw [hk] at h
        cases o with
        | none => simp at h
        | some b => exact ⟨b, x, rfl, hk⟩
  · rintro ⟨b, x, hx, hk⟩
    rw [rAt_eq hx, List.getD_eq_getElem?_getD, hk]
    rfl
def tgtS (r : Rows') (L : Nat → Int) : Int := 0 - mn ((List.range r.length).map L)
/-- numbers of rooms, as a tuple or a list -/
def NumsAt (m : Mem) (d : D) (n : Nat) (L : Nat → Int) : Prop := seqOf m d = some (((List.range n).map L).map .int)
theorem NumsAt.get {m : Mem} {d : D} {n : Nat} {L : Nat → Int} (h : NumsAt m d n L) {a : Nat} (ha : a < n) : gIx d (.int (a : Nat)) m = .ok (.int (L a)) m := by
  have e : atI (((List.range n).map L).map D.int) (a : Nat) = some (.int (L a)) := atI_nat (by rw [List.getElem?_map, List.getElem?_map, List.getElem?_range ha]; rfl)
  cases d with
  | tup ds =>
    have : ds = _ := Option.some.inj h
    subst this
    exact gIx_tup e
  | lst ds =>
    have : ds = _ := Option.some.inj h
    subst this
    exact gIx_lst e
  | scr ds =>
    have : ds = _ := Option.some.inj h
    subst this
    rw [List.map_map] at e
    simp [gIx, ixOf, lstOf, e, oR]
  | ref i =>
    have h' : lstC m[i]? = some _ := h
    cases hc : m[i]? with
    | none => rw [hc] at h'; cases h'
    | some c =>
      rw [hc] at h'
      cases c with
      | lst l =>
        have : l = _ := Option.some.inj h'
        subst this
        exact gIx_ref hc e
      | _ => cases h'
  | _ => cases h
theorem NumsAt.kp {m m' : Mem} {d : D} {n : Nat} {L : Nat → Int} (h : NumsAt m d n L) (k : Kp m m') : NumsAt m' d n L := by
  cases d with
  | ref i =>
    have h' : lstC m[i]? = some _ := h
    show lstC m'[i]? = some _
    cases hc : m[i]? with
    | none => rw [hc] at h'; cases h'
    | some c => rw [k.get hc, ← hc]; exact h'
  | _ => exact h
section
variable {m : Mem} {c : Cha} {dn de : D} {es : List Int} {L : Nat → Int} {P : D → Mem → Prop}
end
end Y
end Mir

/-! Mir: tight heaps, by the law; heaps that have enough. -/
namespace Mir
namespace Y
open PySem PySem.Spec PyProof.Rows L2 Mir
section
variable {m : Mem} {c : Cha} {dn de : D} {es : List Int} {L : Nat → Int} {P : D → Mem → Prop}
/-- a heap has at each way what the deed takes -/
def Enough (r : Rows') (h : Hea) (L : Nat → Int) : Prop := ∀ a k b, way r a k b → tk h k ≤ L a
/-- a heap bears a map -/
def Bears (r : Rows') (h : Hea) : Prop := ∃ L, IsLow r (eAt (effL h)) L ∧ Enough r h fun a => h.s + L a
end
end Y
end Mir

/-! Mir: plain things compared; heaps that stand in a map. -/
namespace Mir
namespace Y
open PySem PySem.Spec PyProof.Rows L2 Mir
/-- things that are told apart by == -/
structure Enc {α : Type} [DecidableEq α] (f : α → D) (k : Nat) : Prop where
  ex : ∃ p : α → PyData, (∀ m n x, toP m (n + k) (f x) = some (p x)) ∧ ∀ x y, PyData.eqv (p x) (p y) = decide (x = y)
theorem eqvAll_map {α : Type} [DecidableEq α] {p : α → PyData} (h : ∀ x y, PyData.eqv (p x) (p y) = decide (x = y)) : ∀ xs ys : List α, PyData.eqvAll (xs.map p) (ys.map p) = decide (xs = ys)
  | [], [] => rfl
  | [], y :: ys => by simp [PyData.eqvAll]
  | x :: xs, [] => by simp [PyData.eqvAll]
  | x :: xs, y :: ys => by
    show (PyData.eqv (p x) (p y) && PyData.eqvAll (xs.map p) (ys.map p)) = _
    rw [h, eqvAll_map h xs ys, Bool.eq_iff_iff]
    simp
theorem toPs_map {α : Type} {f : α → D} {p : α → PyData} {m : Mem} {n : Nat} (h : ∀ x, toP m n (f x) = some (p x)) (xs : List α) : mapO (toP m n) (xs.map f) = some (xs.map p) := mapO_map (f := toP m n) (g := f) (h := p) h xs
theorem Enc.tup {α : Type} [DecidableEq α] {f : α → D} {k : Nat} (h : Enc f k) : Enc (fun xs : List α => .tup (xs.map f)) (k + 1) := by
  obtain ⟨p, h1, h2⟩ := h.ex
  exact ⟨fun xs => .tuple (xs.map p), fun m n xs => by
    show (mapO (toP m (n + k)) (xs.map f)).map _ = _
    rw [toPs_map (h1 m n)]; rfl, fun xs ys => eqvAll_map h2 xs ys⟩
theorem Enc.lst {α : Type} [DecidableEq α] {f : α → D} {k : Nat} (h : Enc f k) : Enc (fun xs : List α => .lst (xs.map f)) (k + 1) := by
  obtain ⟨p, h1, h2⟩ := h.ex
  exact ⟨fun xs => .list (xs.map p), fun m n xs => by
    show (mapO (toP m (n + k)) (xs.map f)).map _ = _
    rw [toPs_map (h1 m n)]; rfl, fun xs ys => eqvAll_map h2 xs ys⟩
theorem Enc.up {α : Type} [DecidableEq α] {f : α → D} {k j : Nat} (h : Enc f k) (hj : k ≤ j) : Enc f j := by
  obtain ⟨p, h1, h2⟩ := h.ex
  exact ⟨p, fun m n x => by rw [show n + j = (n + (j - k)) + k by omega]; exact h1 m _ x, h2⟩
theorem Enc.of {α β : Type} [DecidableEq α] [DecidableEq β] {f : α → D} {k : Nat} (h : Enc f k) (g : β → α) (hg : ∀ x y, g x = g y → x = y) : Enc (fun x => f (g x)) k := by
  obtain ⟨p, h1, h2⟩ := h.ex
  exact ⟨fun x => p (g x), fun m n x => h1 m n _, fun x y => by
    rw [h2, Bool.eq_iff_iff]
    simp
    exact ⟨hg x y, fun e => by rw [e]⟩⟩
/-- the comparison itself -/
theorem Enc.eq {α : Type} [DecidableEq α] {f : α → D} {k : Nat} (h : Enc f k) (hk : k ≤ 60) (x y : α) (hf : flatD (f x) = none) (neg : Bool) (m : Mem) : gEq neg (f x) (f y) m = .ok (.bl (decide (x = y) ^^ neg)) m := by
  obtain ⟨p, h1, h2⟩ := h.ex
  have e1 := fun x => h1 m (60 - k) x
  rw [show 60 - k + k = 60 by omega] at e1
  unfold gEq
  rw [hf]
  simp only
  unfold eqDeep
  rw [e1, e1]
  simp only [h2]
/-! ### heaps that stand in a map -/
section
variable {m : Mem} {c : Cha} {x : Hea} {P : D → Mem → Prop}
structure Stn (r : Rows') (h : Hea) (L : Nat → Int) : Prop where
  lev : IsLev r (eAt (effL h)) L
  pos : ∀ a, a < r.length → 0 ≤ h.s + L a
  en : Enough r h (cntH h L)
def Stands (r : Rows') (h : Hea) : Prop := ∃ L, Stn r h L
theorem Stn.congr {r : Rows'} {w : Nat} {h : Hea} {L L' : Nat → Int} (ok : OkRows w r) (s : Stn r h L) (hL : IsLev r (eAt (effL h)) L') : Stn r h L' :=
  ⟨hL, fun a ha => by rw [hL.uniq s.lev (ok.com a ha)]; exact s.pos a ha, fun a k b hw => by
    have := s.en a k b hw
    unfold cntH at *
    rw [hL.uniq s.lev (ok.com a (way_wid ok.wid hw).1)]
    exact this⟩
end
end Y
end Mir

/-! Mir: bearing by the law; heaps otherwise. -/
namespace Mir
namespace Y
open PySem PySem.Spec PyProof.Rows L2 Mir
section
variable {m : Mem} {c : Cha} {x : Hea} {i : Nat} {P : D → Mem → Prop}
end
end Y
end Mir

/-! Sums and determinants of whole numbers. -/
namespace Sx
def sm : Nat → (Nat → Int) → Int
  | 0, _ => 0
  | n + 1, f => sm n f + f n
theorem sm_congr {f g : Nat → Int} : ∀ {n : Nat}, (∀ i, i < n → f i = g i) → sm n f = sm n g
  | 0, _ => rfl
  | n + 1, h => by
    show sm n f + f n = sm n g + g n
    rw [sm_congr fun i hi => h i (by omega), h n (by omega)]
theorem sm_add (f g : Nat → Int) : ∀ n : Nat, sm n (fun i => f i + g i) = sm n f + sm n g
  | 0 => rfl
  | n + 1 => by
    simp only [sm]
    rw [sm_add f g n]
    omega
theorem sm_mul (c : Int) (f : Nat → Int) : ∀ n : Nat, sm n (fun i => c * f i) = c * sm n f
  | 0 => by simp [sm]
  | n + 1 => by
    show sm n _ + _ = c * (sm n f + f n)
    rw [sm_mul c f n, Int.mul_add]
theorem sm_mulr (c : Int) (f : Nat → Int) (n : Nat) : sm n (fun i => f i * c) = sm n f * c := by
  rw [Int.mul_comm, ← sm_mul]
  exact sm_congr fun i _ => Int.mul_comm _ _
theorem sm_neg (f : Nat → Int) (n : Nat) : sm n (fun i => - f i) = - sm n f := by
  have := sm_mul (-1) f n
  simpa using this
theorem sm_sub (f g : Nat → Int) (n : Nat) : sm n (fun i => f i - g i) = sm n f - sm n g := by
  have : (fun i => f i - g i) = fun i => f i + - g i := by funext i; omega
  rw [this, sm_add, sm_neg]
  omega
theorem sm_zero' {f : Nat → Int} : ∀ {n : Nat}, (∀ i, i < n → f i = 0) → sm n f = 0
  | 0, _ => rfl
  | n + 1, h => by
    show sm n f + f n = 0
    rw [sm_zero' fun i hi => h i (by omega), h n (by omega)]
    rfl
theorem sm_one {f : Nat → Int} {p : Nat} : ∀ {n : Nat}, p < n → (∀ i, i < n → i ≠ p → f i = 0) → sm n f = f p
  | 0, h, _ => absurd h (by omega)
  | n + 1, h, k => by
    show sm n f + f n = f p
    by_cases e : p = n
    · subst e
      rw [sm_zero' fun i hi => k i (by omega) (by omega)]
      omega
    · rw [sm_one (p := p) (by omega) fun i hi => k i (by omega), k n (by omega) (by omega)]
      omega
theorem sm_comm (f : Nat → Nat → Int) (m : Nat) : ∀ n : Nat, sm n (fun i => sm m (f i)) = sm m (fun j => sm n fun i => f i j)
  | 0 => (sm_zero' fun _ _ => rfl).symm
  | n + 1 => by
    show sm n _ + sm m (f n) = sm m _
    rw [sm_comm f m n, ← sm_add]
    rfl
theorem sm_le {f g : Nat → Int} : ∀ {n : Nat}, (∀ i, i < n → f i ≤ g i) → sm n f ≤ sm n g
  | 0, _ => Int.le_refl _
  | n + 1, h => by
    show sm n f + f n ≤ sm n g + g n
    have := sm_le (n := n) (f := f) (g := g) fun i hi => h i (by omega)
    have := h n (by omega)
    omega
theorem sm_nonneg {f : Nat → Int} {n : Nat} (h : ∀ i, i < n → 0 ≤ f i) : 0 ≤ sm n f := by
  have := sm_le (f := fun _ => 0) (g := f) h
  rwa [sm_zero' fun _ _ => rfl] at this
theorem sm_const (c : Int) : ∀ n : Nat, sm n (fun _ => c) = n * c
  | 0 => by simp [sm]
  | n + 1 => by
    show sm n _ + c = _
    rw [sm_const c n, Int.natCast_add, Int.add_mul]
    simp
theorem sm_abs (f : Nat → Int) : ∀ n : Nat, ((sm n f).natAbs : Int) ≤ sm n fun i => ((f i).natAbs : Int)
  | 0 => Int.le_refl _
  | n + 1 => by
    have := sm_abs f n
    simp only [sm]
    omega
theorem sm_split (f : Nat → Int) (a : Nat) : ∀ b : Nat, sm (a + b) f = sm a f + sm b fun i => f (a + i)
  | 0 => by simp [sm]
  | b + 1 => by
    have h := sm_split f a b
    have e1 : sm (a + (b + 1)) f = sm (a + b) f + f (a + b) := rfl
    have e2 : sm (b + 1) (fun i => f (a + i)) = sm b (fun i => f (a + i)) + f (a + b) := rfl
    rw [e1, e2, h, Int.add_assoc]
/-- the sum of what stands at one place -/
theorem sm_at {n p : Nat} (h : p < n) (c : Int) (f : Nat → Int) : sm n (fun i => (if i = p then c else 0) * f i) = c * f p := by
  rw [sm_one (p := p) h]
  · simp
  · intro i _ hi
    simp [hi]
/-! ### determinants -/
def sg (k : Nat) : Int := if k % 2 = 0 then 1 else -1
theorem sg_succ (k : Nat) : sg (k + 1) = - sg k := by
  unfold sg
  by_cases h : k % 2 = 0
  · rw [if_pos h, if_neg (by omega)]
  · rw [if_neg h, if_pos (by omega)]; rfl
theorem sg_two (k : Nat) : sg (k + k) = 1 := by unfold sg; rw [if_pos (by omega)]
theorem sg_abs (k : Nat) : (sg k).natAbs = 1 := by unfold sg; split <;> rfl
abbrev Vs := Nat → Nat → Int
def skip (i : Nat) (v : Vs) : Vs := fun j => if j < i then v j else v (j + 1)
def det : Nat → Vs → Int
  | 0, _ => 1
  | n + 1, v => sm (n + 1) fun i => sg (n + i) * v i n * det n (skip i v)
def upd {α : Type} (v : Nat → α) (p : Nat) (x : α) : Nat → α := fun j => if j = p then x else v j
theorem upd_self {α : Type} (v : Nat → α) (p : Nat) (x : α) : upd v p x p = x := if_pos rfl
theorem upd_ne {α : Type} (v : Nat → α) {p j : Nat} (x : α) (h : j ≠ p) : upd v p x j = v j := if_neg h
theorem upd_id {α : Type} (v : Nat → α) (p : Nat) : upd v p (v p) = v := by
  funext j
  unfold upd
  split
  · rename_i h; rw [h]
  · rfl
theorem upd_comm {α : Type} (v : Nat → α) {p q : Nat} (h : p ≠ q) (x y : α) : upd (upd v p x) q y = upd (upd v q y) p x := by
  funext j
  unfold upd
  by_cases h1 : j = q
  · rw [if_pos h1, if_neg (by omega), if_pos h1]
  · rw [if_neg h1]
    by_cases h2 : j = p
    · rw [if_pos h2, if_pos h2]
    · rw [if_neg h2, if_neg h2, if_neg h1]
theorem skip_lt {i p : Nat} (h : p < i) (v : Vs) (x : Nat → Int) : skip i (upd v p x) = upd (skip i v) p x := by
  funext j
  simp only [skip, upd]
  by_cases h1 : j < i
  · rw [if_pos h1, if_pos h1]
  · rw [if_neg h1, if_neg h1, if_neg (by omega), if_neg (by omega)]
theorem skip_gt {i p : Nat} (h : i < p) (v : Vs) (x : Nat → Int) : skip i (upd v p x) = upd (skip i v) (p - 1) x := by
  funext j
  simp only [skip, upd]
  by_cases h1 : j < i
  · rw [if_pos h1, if_pos h1, if_neg (by omega), if_neg (by omega)]
  · rw [if_neg h1, if_neg h1]
    by_cases h2 : j = p - 1
    · rw [if_pos h2, if_pos (by omega)]
    · rw [if_neg h2, if_neg (by omega)]
theorem skip_eq (i : Nat) (v : Vs) (x : Nat → Int) : skip i (upd v i x) = skip i v := by
  funext j
  simp only [skip, upd]
  by_cases h1 : j < i
  · rw [if_pos h1, if_pos h1, if_neg (by omega)]
  · rw [if_neg h1, if_neg h1, if_neg (by omega)]
theorem det_congr : ∀ {n : Nat} {v w : Vs}, (∀ i j, i < n → j < n → v i j = w i j) → det n v = det n w
  | 0, _, _, _ => rfl
  | n + 1, v, w, h => by
    show sm (n + 1) _ = sm (n + 1) _
    refine sm_congr fun i hi => ?_
    rw [h i n hi (by omega), det_congr (n := n) (v := skip i v) (w := skip i w)]
    intro a b ha hb
    unfold skip
    split
    · exact h a b (by omega) (by omega)
    · exact h (a + 1) b (by omega) (by omega)
theorem det_lin : ∀ {n p : Nat} (v : Vs) (x y : Nat → Int) (c : Int), p < n → det n (upd v p fun j => c * x j + y j) = c * det n (upd v p x) + det n (upd v p y)
  | 0, p, v, x, y, c, h => absurd h (by omega)
  | n + 1, p, v, x, y, c, h => by
    show sm (n + 1) _ = c * sm (n + 1) _ + sm (n + 1) _
    rw [← sm_mul, ← sm_add]
    refine sm_congr fun i hi => ?_
    by_cases e : i = p
    · subst e
      simp only [upd_self, skip_eq, Int.mul_add, Int.add_mul]
      congr 1
      simp only [Int.mul_assoc, Int.mul_left_comm]
    · simp only [upd_ne _ _ e]
      by_cases l : p < i
      · simp only [skip_lt l]
        rw [det_lin (n := n) (skip i v) x y c (by omega), Int.mul_add]
        congr 1
        simp only [Int.mul_assoc, Int.mul_left_comm]
      · have l' : i < p := by omega
        simp only [skip_gt l']
        rw [det_lin (n := n) (skip i v) x y c (by omega), Int.mul_add]
        congr 1
        simp only [Int.mul_assoc, Int.mul_left_comm]
theorem det_zero {n p : Nat} (v : Vs) (h : p < n) : det n (upd v p fun _ => 0) = 0 := by
  have := det_lin v (fun _ => 0) (fun _ => 0) 1 h
  simp only [Int.mul_zero, Int.zero_add, Int.one_mul] at this
  omega
theorem det_smul {n p : Nat} (v : Vs) (x : Nat → Int) (c : Int) (h : p < n) : det n (upd v p fun j => c * x j) = c * det n (upd v p x) := by
  have := det_lin v x (fun _ => 0) c h
  simp only [Int.add_zero] at this
  rw [this, det_zero v h, Int.add_zero]
theorem det_add {n p : Nat} (v : Vs) (x y : Nat → Int) (h : p < n) : det n (upd v p fun j => x j + y j) = det n (upd v p x) + det n (upd v p y) := by
  have := det_lin v x y 1 h
  simpa using this
theorem det_sum {n p : Nat} (v : Vs) (c : Nat → Int) (w : Vs) (h : p < n) : ∀ m : Nat, det n (upd v p fun j => sm m fun i => c i * w i j) = sm m fun i => c i * det n (upd v p (w i))
  | 0 => by
    show det n (upd v p fun _ => 0) = 0
    exact det_zero v h
  | m + 1 => by
    have e : (fun j => sm (m + 1) fun i => c i * w i j) = fun j => c m * w m j + sm m fun i => c i * w i j := by
      funext j
      simp only [sm]
      omega
    rw [e, det_lin v (w m) _ (c m) h, det_sum v c w h m]
    simp only [sm]
    omega
theorem det_adj : ∀ {n p : Nat} {v : Vs}, p + 1 < n → v p = v (p + 1) → det n v = 0
  | 0, p, v, h, _ => absurd h (by omega)
  | n + 1, p, v, h, e => by
    show sm (n + 1) _ = 0
    have hs : skip p v = skip (p + 1) v := by
      funext j
      unfold skip
      by_cases h1 : j < p
      · rw [if_pos h1, if_pos (by omega)]
      · rw [if_neg h1]
        by_cases h2 : j < p + 1
        · rw [if_pos h2, show j = p by omega, e]
        · rw [if_neg h2]
    have hz : ∀ i, i < n + 1 → i ≠ p → i ≠ p + 1 → sg (n + i) * v i n * det n (skip i v) = 0 := by
      intro i hi h1 h2
      by_cases l : i < p
      · rw [det_adj (n := n) (p := p - 1) (by omega) (v := skip i v), Int.mul_zero]
        unfold skip
        rw [if_neg (by omega), if_neg (by omega), show p - 1 + 1 = p by omega, e]
      · rw [det_adj (n := n) (p := p) (by omega) (v := skip i v), Int.mul_zero]
        unfold skip
        rw [if_pos (by omega), if_pos (by omega), e]
    have hsplit : (fun i => sg (n + i) * v i n * det n (skip i v)) = fun i => (if i = p then sg (n + p) * v p n * det n (skip p v) else 0) + (if i = p then 0 else sg (n + i) * v i n * det n (skip i v)) := by
      funext i
      by_cases hi : i = p
      · simp [hi]
      · simp [hi]
    rw [hsplit, sm_add, sm_one (p := p) (by omega) (fun i _ hi => if_neg hi), sm_one (p := p + 1) (by omega) (fun i hi h2 => by
      by_cases h1 : i = p
      · rw [if_pos h1]
      · rw [if_neg h1]; exact hz i hi h1 h2)]
    rw [if_pos rfl, if_neg (by omega), hs, e, show n + (p + 1) = n + p + 1 by omega, sg_succ]
    simp only [Int.neg_mul]
    omega
def swp (v : Vs) (p q : Nat) : Vs := upd (upd v p (v q)) q (v p)
theorem det_swap_of {n p q : Nat} (hp : p < n) (hq : q < n) (hpq : p ≠ q) (h0 : ∀ v : Vs, v p = v q → det n v = 0) (v : Vs) : det n (swp v p q) = - det n v := by
  have h := h0 (upd (upd v p fun j => v p j + v q j) q fun j => v p j + v q j) (by rw [upd_self, upd_ne _ _ hpq, upd_self])
  rw [det_add _ _ _ hq, upd_comm _ hpq, upd_comm _ hpq, det_add _ _ _ hp, det_add _ _ _ hp] at h
  have e1 := h0 (upd (upd v q (v p)) p (v p)) (by rw [upd_self, upd_ne _ _ (Ne.symm hpq), upd_self])
  have e2 := h0 (upd (upd v q (v q)) p (v q)) (by rw [upd_self, upd_ne _ _ (Ne.symm hpq), upd_self])
  have e3 : upd (upd v q (v q)) p (v p) = v := by rw [upd_id, upd_id]
  have e4 : swp v p q = upd (upd v q (v p)) p (v q) := by unfold swp; rw [upd_comm _ hpq]
  rw [e1, e2, e3] at h
  rw [e4]
  omega
theorem det_two : ∀ (d : Nat) {n p : Nat} {v : Vs}, p + d + 1 < n → v p = v (p + d + 1) → det n v = 0
  | 0, n, p, v, h, e => det_adj h e
  | d + 1, n, p, v, h, e => by
    have hs := det_swap_of (n := n) (p := p + d + 1) (q := p + d + 2) (by omega) (by omega) (by omega) (fun v e => det_adj (p := p + d + 1) (by omega) e) v
    have := det_two d (n := n) (p := p) (v := swp v (p + d + 1) (p + d + 2)) (by omega) (by
      unfold swp
      rw [upd_ne _ _ (by omega), upd_ne _ _ (by omega), upd_ne _ _ (by omega), upd_self]
      exact e)
    omega
theorem det_same {n p q : Nat} {v : Vs} (hp : p < n) (hq : q < n) (hpq : p ≠ q) (e : v p = v q) : det n v = 0 := by
  by_cases l : p < q
  · exact det_two (q - p - 1) (n := n) (p := p) (by omega) (by rw [show p + (q - p - 1) + 1 = q by omega]; exact e)
  · exact det_two (p - q - 1) (n := n) (p := q) (by omega) (by rw [show q + (p - q - 1) + 1 = p by omega]; exact e.symm)
theorem det_swap {n p q : Nat} (hp : p < n) (hq : q < n) (hpq : p ≠ q) (v : Vs) : det n (swp v p q) = - det n v :=
  det_swap_of hp hq hpq (fun _ e => det_same hp hq hpq e) v
def idV : Vs := fun i j => if i = j then 1 else 0
theorem det_id : ∀ n : Nat, det n idV = 1
  | 0 => rfl
  | n + 1 => by
    show sm (n + 1) _ = 1
    rw [sm_one (p := n) (by omega) (fun i _ hi => by simp [idV, hi])]
    rw [sg_two, det_congr (w := idV) (n := n) (fun i j hi _ => by unfold skip; rw [if_pos hi]), det_id n]
    simp [idV]
/-- Cramer: a combination put in the place of one -/
theorem cramer {n p : Nat} {v : Vs} {x c : Nat → Int} {u : Int} (hp : p < n) (h : ∀ j, j < n → u * x j = sm n fun i => c i * v i j) : u * det n (upd v p x) = c p * det n v := by
  rw [← det_smul v x u hp, det_congr (w := upd v p fun j => sm n fun i => c i * v i j)]
  · rw [det_sum v c v hp, sm_one (p := p) hp, upd_id]
    intro i hi hn
    rw [det_same (p := i) (q := p) hi hp hn, Int.mul_zero]
    rw [upd_self, upd_ne _ _ hn]
  · intro i j _ hj
    unfold upd
    split
    · exact h j hj
    · rfl
theorem indep {n : Nat} {v : Vs} {c : Nat → Int} (hd : det n v ≠ 0) (h : ∀ j, j < n → sm n (fun i => c i * v i j) = 0) {p : Nat} (hp : p < n) : c p = 0 := by
  have := cramer (v := v) (x := fun _ => 0) (c := c) (u := 0) hp (fun j hj => by rw [h j hj]; simp)
  rw [Int.zero_mul] at this
  rcases Int.mul_eq_zero.mp this.symm with h | h
  · exact h
  · exact absurd h hd
def fac : Nat → Nat
  | 0 => 1
  | n + 1 => (n + 1) * fac n
theorem det_le {b : Nat} : ∀ {n : Nat} {v : Vs}, (∀ i j, i < n → j < n → (v i j).natAbs ≤ b) → (det n v).natAbs ≤ fac n * b ^ n
  | 0, _, _ => by simp [det, fac]
  | n + 1, v, h => by
    have h1 := sm_abs (fun i => sg (n + i) * v i n * det n (skip i v)) (n + 1)
    have h2 : sm (n + 1) (fun i => ((sg (n + i) * v i n * det n (skip i v)).natAbs : Int)) ≤ sm (n + 1) fun _ => ((b * (fac n * b ^ n) : Nat) : Int) := sm_le fun i hi => by
      rw [Int.natAbs_mul, Int.natAbs_mul, sg_abs, Nat.one_mul]
      have h3 := h i n hi (by omega)
      have h4 := det_le (b := b) (n := n) (v := skip i v) (fun a c ha hc => by
        unfold skip
        split
        · exact h a c (by omega) (by omega)
        · exact h (a + 1) c (by omega) (by omega))
      exact Int.ofNat_le.mpr (Nat.mul_le_mul h3 h4)
    rw [sm_const] at h2
    have h5 : ((det (n + 1) v).natAbs : Int) ≤ ((n + 1 : Nat) : Int) * ((b * (fac n * b ^ n) : Nat) : Int) := Int.le_trans h1 h2
    rw [← Int.natCast_mul] at h5
    have h6 := Int.ofNat_le.mp h5
    refine Nat.le_trans h6 (Nat.le_of_eq ?_)
    show _ = (n + 1) * fac n * b ^ (n + 1)
    rw [Nat.pow_succ]
    simp only [Nat.mul_assoc, Nat.mul_comm, Nat.mul_left_comm]
end Sx

/-! Tableaus of whole numbers: a pivot keeps them whole. -/
namespace Sx
theorem sm_two {f : Nat → Int} {n p q : Nat} (hp : p < n) (hq : q < n) (hpq : p ≠ q) (h : ∀ i, i < n → i ≠ p → i ≠ q → f i = 0) : sm n f = f p + f q := by
  have e : f = fun i => (if i = p then f p else 0) + (if i = p then 0 else f i) := by
    funext i
    by_cases hi : i = p
    · simp [hi]
    · simp [hi]
  have e' : sm n f = sm n (fun i => (if i = p then f p else 0) + (if i = p then 0 else f i)) := congrArg _ e
  rw [e', sm_add, sm_one (p := p) hp (fun i _ hi => if_neg hi), sm_one (p := q) hq (fun i hi h2 => by
    by_cases h1 : i = p
    · rw [if_pos h1]
    · rw [if_neg h1]; exact h i hi h1 h2)]
  rw [if_pos rfl, if_neg (Ne.symm hpq)]
structure Tab where
  R : Nat → Nat → Int
  u : Int
  b : Nat → Nat
def bv (M : Vs) (m : Nat) (b : Nat → Nat) : Vs := fun i => if i < m then fun j => M j (b i) else fun j => if j = m then 1 else 0
theorem bv_lt {M : Vs} {m i : Nat} {b : Nat → Nat} (h : i < m) : bv M m b i = fun j => M j (b i) := if_pos h
theorem bv_m (M : Vs) (m : Nat) (b : Nat → Nat) : bv M m b m = fun j => if j = m then 1 else 0 := if_neg (by omega)
structure Good (M : Vs) (m C : Nat) (T : Tab) : Prop where
  pos : 0 < T.u
  comb : ∀ c j, c < C → j < m + 1 → T.u * M j c = sm (m + 1) fun i => T.R i c * bv M m T.b i j
  unit : ∃ s : Int, s * s = 1 ∧ T.u = s * det (m + 1) (bv M m T.b)
  bas : ∀ i, i < m → T.b i < C
section
variable {M : Vs} {m C : Nat} {T : Tab}
theorem Good.ne (g : Good M m C T) : det (m + 1) (bv M m T.b) ≠ 0 := by
  intro h
  obtain ⟨s, _, e⟩ := g.unit
  have := g.pos
  rw [e, h, Int.mul_zero] at this
  omega
theorem Good.entry (g : Good M m C T) {s : Int} (hs : s * s = 1) (hu : T.u = s * det (m + 1) (bv M m T.b)) {i c : Nat} (hi : i < m + 1) (hc : c < C) : T.R i c = s * det (m + 1) (upd (bv M m T.b) i fun j => M j c) := by
  have h := cramer (v := bv M m T.b) (x := fun j => M j c) (c := fun i => T.R i c) (u := T.u) hi (fun j hj => g.comb c j hc hj)
  have hd : det (m + 1) (bv M m T.b) = s * T.u := by rw [hu, ← Int.mul_assoc, hs, Int.one_mul]
  rw [hd] at h
  have hp := g.pos
  have : T.u * (T.R i c) = T.u * (s * det (m + 1) (upd (bv M m T.b) i fun j => M j c)) := by
    rw [Int.mul_left_comm, h, ← Int.mul_assoc, Int.mul_comm s, Int.mul_assoc, ← Int.mul_assoc s, hs, Int.one_mul, Int.mul_comm]
  exact Int.eq_of_mul_eq_mul_left (by omega) this
theorem Good.basic (g : Good M m C T) {i k : Nat} (hi : i < m + 1) (hk : k < m) : T.R i (T.b k) = if i = k then T.u else 0 := by
  have h : T.R i (T.b k) - (if i = k then T.u else 0) = 0 := indep (c := fun i => T.R i (T.b k) - (if i = k then T.u else 0)) g.ne (fun j hj => by
    simp only [Int.sub_mul]
    rw [sm_sub, sm_at (p := k) (by omega), ← g.comb _ j (g.bas k hk) hj, bv_lt hk]
    exact Int.sub_self _) hi
  omega
/-- a step from one tableau to the next -/
structure Piv (m C : Nat) (T T' : Tab) (p q : Nat) : Prop where
  hp : p < m
  hq : q < C
  by' : 0 < T.R p q
  u : T'.u = T.R p q
  b : ∀ i, i < m → T'.b i = upd T.b p q i
  own : ∀ c, c < C → T'.R p c = T.R p c
  row : ∀ k c, k < m + 1 → k ≠ p → c < C → T'.R k c = (T.R k c * T.R p q - T.R k q * T.R p c) / T.u
theorem exact' (g : Good M m C T) {p q k c : Nat} (hp : p < m) (hq : q < C) (hk : k < m + 1) (hkp : k ≠ p) (hc : c < C) : ∃ N : Int, T.u * N = T.R k c * T.R p q - T.R k q * T.R p c := by
  obtain ⟨s, hs, hu⟩ := g.unit
  have hpos := g.pos
  have cmb := g.comb
  generalize hv : bv M m T.b = v at *
  have hp1 : p < m + 1 := by omega
  generalize hvv : upd v p (fun j => M j q) = v'
  have hv'p : v' p = fun j => M j q := by rw [← hvv, upd_self]
  have hv' : ∀ i, i ≠ p → v' i = v i := fun i hi => by rw [← hvv, upd_ne _ _ hi]
  have c1 : T.u * det (m + 1) v' = T.R p q * det (m + 1) v := by
    rw [← hvv]
    exact cramer (c := fun i => T.R i q) hp1 fun j hj => cmb q j hq hj
  have e1 : T.u * det (m + 1) (upd v' k fun j => M j c) = sm (m + 1) fun i => T.R i c * det (m + 1) (upd v' k (v i)) := by
    rw [← det_smul v' _ _ hk, det_congr (w := upd v' k fun j => sm (m + 1) fun i => T.R i c * v i j), det_sum v' _ _ hk]
    intro i j _ hj
    unfold upd
    split
    · exact cmb c j hc hj
    · rfl
  have e2 : T.u * det (m + 1) (upd v' k (v p)) = - (T.R k q * det (m + 1) v) := by
    have w1 : upd v' k (v p) = upd (upd v k (v p)) p fun j => M j q := by rw [← hvv, upd_comm _ (Ne.symm hkp)]
    rw [w1, ← det_smul _ _ _ hp1, det_congr (w := upd (upd v k (v p)) p fun j => sm (m + 1) fun i => T.R i q * v i j), det_sum _ _ _ hp1, sm_one (p := k) hk]
    · have : upd (upd v k (v p)) p (v k) = swp v k p := rfl
      rw [this, det_swap hk hp1 hkp]
      exact Int.mul_neg _ _
    · intro i hi hik
      by_cases h : i = p
      · subst h
        rw [det_same (p := k) (q := i) hk hi hkp, Int.mul_zero]
        rw [upd_self, upd_ne _ _ hkp, upd_self]
      · rw [det_same (p := i) (q := p) hi hp1 h, Int.mul_zero]
        rw [upd_self, upd_ne _ _ h, upd_ne _ _ hik]
    · intro i j _ hj
      unfold upd
      split
      · exact cmb q j hq hj
      · rfl
  rw [sm_two (p := k) (q := p) hk hp1 hkp] at e1
  · have e3 : upd v' k (v k) = v' := by rw [← hv' k hkp, upd_id]
    rw [e3] at e1
    refine ⟨s * det (m + 1) (upd v' k fun j => M j c), ?_⟩
    have h : T.u * (T.u * det (m + 1) (upd v' k fun j => M j c)) = (T.R k c * T.R p q - T.R k q * T.R p c) * det (m + 1) v := by
      rw [e1, Int.mul_add, Int.mul_left_comm, c1, Int.mul_left_comm T.u, e2, Int.sub_mul, Int.mul_neg, ← Int.mul_assoc, ← Int.mul_assoc, Int.mul_comm (T.R p c) (T.R k q)]
      omega
    have h2 : T.u * (T.u * (s * det (m + 1) (upd v' k fun j => M j c))) = T.u * (T.R k c * T.R p q - T.R k q * T.R p c) := by
      rw [Int.mul_left_comm T.u s, Int.mul_left_comm T.u s, h]
      rw [Int.mul_left_comm s, ← hu, Int.mul_comm]
    exact Int.eq_of_mul_eq_mul_left (by omega) h2
  · intro i hi h1 h2
    rw [det_same (p := i) (q := k) hi hk h1, Int.mul_zero]
    rw [upd_self, upd_ne _ _ h1, hv' i h2]
theorem Piv.ex {T' : Tab} {p q : Nat} (v : Piv m C T T' p q) (g : Good M m C T) {k c : Nat} (hk : k < m + 1) (hkp : k ≠ p) (hc : c < C) : T.u * T'.R k c = T.R k c * T.R p q - T.R k q * T.R p c := by
  obtain ⟨N, hN⟩ := exact' g v.hp v.hq hk hkp hc
  have hp := g.pos
  rw [v.row k c hk hkp hc, ← hN, Int.mul_ediv_cancel_left N (by omega)]
theorem Piv.good {T' : Tab} {p q : Nat} (v : Piv m C T T' p q) (g : Good M m C T) : Good M m C T' := by
  have hp1 : p < m + 1 := Nat.lt_succ_of_lt v.hp
  have hpos := g.pos
  have hbv : ∀ i j, i < m + 1 → j < m + 1 → bv M m T'.b i j = upd (bv M m T.b) p (fun j => M j q) i j := fun i j hi _ => by
    by_cases h : i < m
    · rw [bv_lt h, v.b i h]
      by_cases h2 : i = p
      · rw [h2, upd_self, upd_self]
      · rw [upd_ne _ _ h2, upd_ne _ _ h2, bv_lt h]
    · rw [show i = m by omega, bv_m, upd_ne _ _ (by have := v.hp; omega), bv_m]
  refine ⟨by rw [v.u]; exact v.by', fun c j hc hj => ?_, ?_, fun i hi => ?_⟩
  · have hb : ∀ i, i < m + 1 → bv M m T'.b i j = upd (bv M m T.b) p (fun j => M j q) i j := fun i hi => hbv i j hi hj
    rw [sm_congr fun i hi => by rw [hb i hi]]
    have h1 := g.comb c j hc hj
    have h2 := g.comb q j v.hq hj
    -- times T.u
    have key : T.u * sm (m + 1) (fun i => T'.R i c * upd (bv M m T.b) p (fun j => M j q) i j) = T.u * (T.R p q * M j c) := by
      rw [← sm_mul]
      have : ∀ i, i < m + 1 → T.u * (T'.R i c * upd (bv M m T.b) p (fun j => M j q) i j) = (T.R p q * (T.R i c * bv M m T.b i j) - T.R p c * (T.R i q * bv M m T.b i j)) + (if i = p then T.R p c * (T.u * M j q) else 0) * 1 := fun i hi => by
        by_cases e : i = p
        · subst e
          rw [upd_self, if_pos rfl, v.own c hc, Int.mul_one]
          have : T.R i q * (T.R i c * bv M m T.b i j) - T.R i c * (T.R i q * bv M m T.b i j) = 0 := by rw [Int.mul_left_comm]; omega
          rw [this, Int.mul_left_comm]
          omega
        · rw [upd_ne _ _ e, if_neg e, ← Int.mul_assoc, v.ex g hi e hc, Int.sub_mul, Int.zero_mul, Int.add_zero, Int.mul_comm (T.R i c), Int.mul_comm (T.R i q), Int.mul_assoc, Int.mul_assoc]
      rw [sm_congr this, sm_add, sm_sub, sm_mul, sm_mul, ← h1, ← h2, sm_at hp1 _ (fun _ => 1), Int.mul_one, Int.mul_left_comm]
      omega
    rw [v.u]
    exact (Int.eq_of_mul_eq_mul_left (by omega) key).symm
  · obtain ⟨s, hs, hu⟩ := g.unit
    refine ⟨s, hs, ?_⟩
    rw [det_congr hbv, v.u]
    exact g.entry hs hu hp1 v.hq
  · rw [v.b i hi]
    unfold upd
    split
    · exact v.hq
    · exact g.bas i hi
/-- of one basis there is one tableau -/
theorem Good.uniq {T' : Tab} (g : Good M m C T) (g' : Good M m C T') (hb : ∀ i, i < m → T.b i = T'.b i) : T.u = T'.u ∧ ∀ i c, i < m + 1 → c < C → T.R i c = T'.R i c := by
  have hbv : bv M m T.b = bv M m T'.b := by
    funext i
    unfold bv
    by_cases h : i < m
    · rw [if_pos h, if_pos h, hb i h]
    · rw [if_neg h, if_neg h]
  obtain ⟨s, hs, hu⟩ := g.unit
  obtain ⟨s', hs', hu'⟩ := g'.unit
  rw [← hbv] at hu'
  have e : s = s' := by
    have h1 := g.pos
    have h2 := g'.pos
    have a1 : s = 1 ∨ s = -1 := by
      have : s.natAbs * s.natAbs = 1 := by rw [← Int.natAbs_mul, hs]; rfl
      have := Nat.eq_one_of_mul_eq_one_left this
      omega
    have a2 : s' = 1 ∨ s' = -1 := by
      have : s'.natAbs * s'.natAbs = 1 := by rw [← Int.natAbs_mul, hs']; rfl
      have := Nat.eq_one_of_mul_eq_one_left this
      omega
    rcases a1 with rfl | rfl <;> rcases a2 with rfl | rfl <;> omega
  subst e
  refine ⟨hu.trans hu'.symm, fun i c hi hc => ?_⟩
  rw [g.entry hs hu hi hc, g'.entry hs (by rw [← hbv]; exact hu') hi hc, hbv]
/-- the first tableau -/
theorem Good.first (h : ∀ i j, i < m → j < m + 1 → M j (T.b i) = if i = j then 1 else 0) (hb : ∀ i, i < m → T.b i < C) (hu : T.u = 1) (hR : ∀ i c, i < m + 1 → c < C → T.R i c = M i c) : Good M m C T := by
  have hv : ∀ i j, i < m + 1 → j < m + 1 → bv M m T.b i j = idV i j := fun i j hi hj => by
    unfold bv idV
    by_cases hm : i < m
    · rw [if_pos hm, h i j hm hj]
    · rw [if_neg hm, show i = m by omega]
      by_cases e : j = m
      · rw [if_pos e, if_pos e.symm]
      · rw [if_neg e, if_neg (Ne.symm e)]
  refine ⟨by rw [hu]; decide, fun c j hc hj => ?_, ⟨1, rfl, ?_⟩, hb⟩
  · rw [sm_congr (fun i hi => by rw [hv i j hi hj]), sm_one (p := j) hj, hR j c hj hc, hu]
    · simp [idV]
    · intro i _ hi
      simp [idV, hi]
  · rw [det_congr hv, det_id, hu]
    rfl
theorem Good.bound (g : Good M m C T) {B : Nat} (hB : ∀ j c, j < m + 1 → c < C → (M j c).natAbs ≤ B) (h1 : 1 ≤ B) {i c : Nat} (hi : i < m + 1) (hc : c < C) : (T.R i c).natAbs ≤ fac (m + 1) * B ^ (m + 1) := by
  obtain ⟨s, hs, hu⟩ := g.unit
  rw [g.entry hs hu hi hc, Int.natAbs_mul]
  have : s.natAbs = 1 := by
    have : s.natAbs * s.natAbs = 1 := by rw [← Int.natAbs_mul, hs]; rfl
    exact Nat.eq_one_of_mul_eq_one_left this
  rw [this, Nat.one_mul]
  refine det_le fun a j ha hj => ?_
  unfold upd
  split
  · exact hB j c hj hc
  · unfold bv
    split
    · rename_i h
      exact hB j _ hj (g.bas a h)
    · show (if j = m then (1 : Int) else 0).natAbs ≤ B
      split
      · exact h1
      · exact Nat.zero_le _
end
end Sx

/-! The search: it comes to an end, and what it tells. -/
namespace Sx
theorem sm_pos {f : Nat → Int} : ∀ {n : Nat}, 0 < sm n f → ∃ i, i < n ∧ 0 < f i
  | 0, h => absurd h (by simp [sm])
  | n + 1, h => by
    simp only [sm] at h
    by_cases h1 : 0 < f n
    · exact ⟨n, by omega, h1⟩
    · obtain ⟨i, hi, h2⟩ := sm_pos (n := n) (f := f) (by omega)
      exact ⟨i, by omega, h2⟩
theorem sm_all0 {f : Nat → Int} : ∀ {n : Nat}, (∀ i, i < n → 0 ≤ f i) → sm n f = 0 → ∀ i, i < n → f i = 0
  | 0, _, _, i, hi => absurd hi (by omega)
  | n + 1, h, e, i, hi => by
    simp only [sm] at e
    have h1 := sm_nonneg (n := n) fun i hi => h i (by omega)
    have h2 := h n (by omega)
    by_cases he : i = n
    · subst he; omega
    · exact sm_all0 (n := n) (fun i hi => h i (by omega)) (by omega) i (by omega)
section
variable {M : Vs} {m C : Nat} {T : Tab}
/-- what holds in the rows holds in each tableau -/
theorem Good.sol (g : Good M m C T) {x : Nat → Int} {xw : Int} (h : ∀ j, j < m + 1 → sm C (fun c => x c * M j c) + xw * (if j = m then 1 else 0) = 0) {i : Nat} (hi : i < m + 1) :
    sm C (fun c => x c * T.R i c) + xw * T.u * (if i = m then 1 else 0) = 0 := by
  refine indep (c := fun i => sm C (fun c => x c * T.R i c) + xw * T.u * (if i = m then 1 else 0)) g.ne (fun j hj => ?_) hi
  have e1 : sm (m + 1) (fun i => (sm C (fun c => x c * T.R i c) + xw * T.u * (if i = m then 1 else 0)) * bv M m T.b i j) = sm (m + 1) (fun i => sm C fun c => x c * (T.R i c * bv M m T.b i j)) + sm (m + 1) (fun i => (if i = m then xw * T.u else 0) * bv M m T.b i j) := by
    rw [← sm_add]
    refine sm_congr fun i _ => ?_
    rw [Int.add_mul, ← sm_mulr]
    congr 1
    · exact sm_congr fun c _ => Int.mul_assoc _ _ _
    · by_cases e : i = m
      · rw [if_pos e, if_pos e, Int.mul_one]
      · rw [if_neg e, if_neg e, Int.mul_zero]
  rw [e1, sm_comm, sm_at (p := m) (by omega), bv_m]
  have e2 : sm C (fun c => sm (m + 1) fun i => x c * (T.R i c * bv M m T.b i j)) = T.u * sm C fun c => x c * M j c := by
    rw [← sm_mul]
    refine sm_congr fun c hc => ?_
    rw [sm_mul, ← g.comb c j hc hj, Int.mul_left_comm]
  rw [e2]
  have := h j hj
  have h2 : sm C (fun c => x c * M j c) = - (xw * (if j = m then 1 else 0)) := by omega
  rw [h2]
  simp only [Int.mul_neg, Int.mul_assoc, Int.mul_left_comm T.u]
  omega
theorem Good.row (g : Good M m C T) {x : Nat → Int} {xw : Int} (h : ∀ i, i < m + 1 → sm C (fun c => x c * T.R i c) + xw * T.u * (if i = m then 1 else 0) = 0) {j : Nat} (hj : j < m + 1) :
    sm C (fun c => x c * M j c) + xw * (if j = m then 1 else 0) = 0 := by
  have hp := g.pos
  have key : T.u * (sm C (fun c => x c * M j c) + xw * (if j = m then 1 else 0)) = T.u * 0 := by
    rw [Int.mul_add, ← sm_mul, sm_congr (fun c hc => by rw [Int.mul_left_comm, g.comb c j hc hj, ← sm_mul]), ← sm_comm (fun i c => x c * (T.R i c * bv M m T.b i j))]
    have e : (T.u * (xw * if j = m then 1 else 0)) = sm (m + 1) (fun i => (if i = m then xw * T.u else 0) * bv M m T.b i j) := by
      rw [sm_at (p := m) (by omega), bv_m]
      simp only [Int.mul_assoc, Int.mul_left_comm]
    rw [e, ← sm_add, Int.mul_zero]
    refine sm_zero' fun i hi => ?_
    have := h i hi
    rw [sm_congr (fun c _ => (Int.mul_assoc (x c) (T.R i c) _).symm), sm_mulr, ← Int.add_mul]
    have e2 : (if i = m then xw * T.u else 0) = xw * T.u * (if i = m then 1 else 0) := by
      by_cases e : i = m
      · rw [if_pos e, if_pos e, Int.mul_one]
      · rw [if_neg e, if_neg e, Int.mul_zero]
    rw [e2, this, Int.zero_mul]
  exact Int.eq_of_mul_eq_mul_left (by omega) key
/-- along a column -/
def dir (T : Tab) (m s : Nat) : Nat → Int := fun c => (if c = s then T.u else 0) - sm m fun k => if T.b k = c then T.R k s else 0
theorem dir_sum {n : Nat} (f : Nat → Int) {s : Nat} (hs : s < n) (hb : ∀ k, k < m → T.b k < n) : sm n (fun c => dir T m s c * f c) = T.u * f s - sm m fun k => T.R k s * f (T.b k) := by
  unfold dir
  simp only [Int.sub_mul]
  rw [sm_sub, sm_at hs]
  congr 1
  rw [sm_congr (fun c _ => (sm_mulr (f c) _ m).symm), sm_comm (fun c k => (if T.b k = c then T.R k s else 0) * f c)]
  refine sm_congr fun k hk => ?_
  rw [sm_congr (fun c _ => by rw [show (if T.b k = c then T.R k s else 0) = (if c = T.b k then T.R k s else 0) by
    by_cases e : T.b k = c
    · rw [if_pos e, if_pos e.symm]
    · rw [if_neg e, if_neg (Ne.symm e)]]), sm_at (hb k hk)]
theorem Good.dirs (g : Good M m C T) {s : Nat} (hs : s < C) {j : Nat} (hj : j < m + 1) : sm C (fun c => dir T m s c * M j c) + (- T.R m s) * (if j = m then 1 else 0) = 0 := by
  refine g.row (fun i hi => ?_) hj
  rw [dir_sum _ hs g.bas, sm_congr (fun k hk => by rw [g.basic hi hk])]
  by_cases e : i = m
  · subst e
    rw [if_pos rfl, sm_zero' (fun k hk => by rw [if_neg (by omega), Int.mul_zero]), Int.mul_one, Int.neg_mul, Int.mul_comm]
    omega
  · rw [if_neg e, sm_one (p := i) (by omega) (fun k _ hk => by rw [if_neg (Ne.symm hk), Int.mul_zero]), if_pos rfl, Int.mul_zero, Int.mul_comm]
    omega
theorem Good.two {T' : Tab} (g : Good M m C T) (g' : Good M m C T') {s : Nat} (hs : s < C) : T.u * T'.R m s - sm m (fun k => T.R k s * T'.R m (T.b k)) = T.R m s * T'.u := by
  have h := g'.sol (x := dir T m s) (xw := - T.R m s) (fun j hj => g.dirs hs hj) (i := m) (by omega)
  rw [dir_sum _ hs g.bas, if_pos rfl, Int.mul_one, Int.neg_mul] at h
  omega
end
/-- the rows to begin with: w columns that may come in, m of their own, what is due -/
structure Sys (M : Vs) (m w : Nat) : Prop where
  own : ∀ i k, i < m → k < m → M i (w + k) = if i = k then 1 else 0
  ownL : ∀ k, k < m → M m (w + k) = 0
  last : ∀ c, c < w ∨ c = w + m → M m c = - sm m fun i => M i c
  due : ∀ i, i < m → 0 ≤ M i (w + m)
structure Ok (M : Vs) (m w : Nat) (T : Tab) : Prop where
  good : Good M m (w + m + 1) T
  feas : ∀ i, i < m → 0 ≤ T.R i (w + m)
  bas : ∀ i, i < m → T.b i < w + m
structure Stp (m w : Nat) (T T' : Tab) (p q : Nat) : Prop where
  piv : Piv m (w + m + 1) T T' p q
  hq : q < w
  neg : T.R m q < 0
  least : ∀ c, c < q → 0 ≤ T.R m c
  leave : ∀ k, k < m → 0 < T.R k q → T.R p (w + m) * T.R k q < T.R k (w + m) * T.R p q ∨ T.R p (w + m) * T.R k q = T.R k (w + m) * T.R p q ∧ T.b p ≤ T.b k
section
variable {M : Vs} {m w : Nat} {T T' : Tab} {p q : Nat}
theorem nonneg_of_mul {a b : Int} (ha : 0 < a) (h : 0 ≤ a * b) : 0 ≤ b := by
  by_cases hb : 0 ≤ b
  · exact hb
  · have : a * b < 0 := Int.mul_neg_of_pos_of_neg ha (by omega)
    omega
theorem Stp.ok (t : Stp m w T T' p q) (o : Ok M m w T) : Ok M m w T' := by
  have hp := o.good.pos
  refine ⟨t.piv.good o.good, fun i hi => ?_, fun i hi => ?_⟩
  · by_cases e : i = p
    · subst e
      rw [t.piv.own _ (by omega)]
      exact o.feas i hi
    · have h := t.piv.ex o.good (k := i) (c := w + m) (by omega) e (by omega)
      refine nonneg_of_mul hp ?_
      rw [h]
      have h1 := o.feas i hi
      have h2 := o.feas p t.piv.hp
      have h3 := t.piv.by'
      by_cases hn : 0 < T.R i q
      · have := t.leave i hi hn
        have e1 : T.R i q * T.R p (w + m) = T.R p (w + m) * T.R i q := Int.mul_comm _ _
        omega
      · have a1 : 0 ≤ T.R i (w + m) * T.R p q := Int.mul_nonneg h1 (by omega)
        have a2 : 0 ≤ (- T.R i q) * T.R p (w + m) := Int.mul_nonneg (by omega) h2
        rw [Int.neg_mul] at a2
        omega
  · rw [t.piv.b i hi]
    unfold upd
    split
    · have := t.hq; omega
    · exact o.bas i hi
/-- what is left grows no more -/
theorem Stp.obj (t : Stp m w T T' p q) (o : Ok M m w T) : T.R m (w + m) * T'.u ≤ T'.R m (w + m) * T.u := by
  have h := t.piv.ex o.good (k := m) (c := w + m) (by omega) (by have := t.piv.hp; omega) (by omega)
  rw [t.piv.u, Int.mul_comm (T'.R m (w + m)), h]
  have a2 : 0 ≤ (- T.R m q) * T.R p (w + m) := Int.mul_nonneg (by have := t.neg; omega) (o.feas p t.piv.hp)
  rw [Int.neg_mul] at a2
  omega
theorem Stp.flat (t : Stp m w T T' p q) (o : Ok M m w T) (h : T.R m (w + m) * T'.u = T'.R m (w + m) * T.u) : T.R p (w + m) = 0 := by
  have e := t.piv.ex o.good (k := m) (c := w + m) (by omega) (by have := t.piv.hp; omega) (by omega)
  rw [t.piv.u, Int.mul_comm (T'.R m (w + m)), e] at h
  have h1 : T.R m q * T.R p (w + m) = 0 := by omega
  rcases Int.mul_eq_zero.mp h1 with h2 | h2
  · have := t.neg; omega
  · exact h2
/-- a column that comes in isn't there yet -/
theorem Stp.new (t : Stp m w T T' p q) (o : Ok M m w T) {i : Nat} (hi : i < m) : T.b i ≠ q := by
  intro e
  have := o.good.basic (i := m) (by omega) hi
  rw [e, if_neg (by omega)] at this
  have := t.neg
  omega
end
/-- a chain of steps -/
structure Chn (M : Vs) (m w n : Nat) (f : Nat → Tab) (p q : Nat → Nat) : Prop where
  ok : Ok M m w (f 0)
  st : ∀ i, i < n → Stp m w (f i) (f (i + 1)) (p i) (q i)
section
variable {M : Vs} {m w n : Nat} {f : Nat → Tab} {p q : Nat → Nat}
theorem Chn.all (c : Chn M m w n f p q) : ∀ i, i ≤ n → Ok M m w (f i)
  | 0, _ => c.ok
  | i + 1, h => (c.st i (by omega)).ok (c.all i (by omega))
theorem mul_le_trans {a b c x y z : Int} (hy : 0 < y) (hx : 0 < x) (hz : 0 < z) (h1 : a * y ≤ b * x) (h2 : b * z ≤ c * y) : a * z ≤ c * x := by
  have e1 : a * y * z ≤ b * x * z := Int.mul_le_mul_of_nonneg_right h1 (by omega)
  have e2 : b * z * x ≤ c * y * x := Int.mul_le_mul_of_nonneg_right h2 (by omega)
  have e3 : y * (a * z) ≤ y * (c * x) := by
    have q1 : y * (a * z) = a * y * z := by simp only [Int.mul_comm, Int.mul_left_comm]
    have q2 : b * x * z = b * z * x := by simp only [Int.mul_comm, Int.mul_left_comm]
    have q3 : c * y * x = y * (c * x) := by simp only [Int.mul_comm, Int.mul_left_comm]
    omega
  exact Int.le_of_mul_le_mul_left e3 hy
theorem Chn.objs (c : Chn M m w n f p q) (i : Nat) : ∀ d, i + d ≤ n → (f i).R m (w + m) * (f (i + d)).u ≤ (f (i + d)).R m (w + m) * (f i).u
  | 0, _ => Int.le_refl _
  | d + 1, h => by
    have h1 := c.objs i d (by omega)
    have h2 := (c.st (i + d) (by omega)).obj (c.all (i + d) (by omega))
    exact mul_le_trans (c.all (i + d) (by omega)).good.pos (c.all i (by omega)).good.pos (c.all (i + d + 1) (by omega)).good.pos h1 h2
def In (m : Nat) (T : Tab) (c : Nat) : Prop := ∃ i, i < m ∧ T.b i = c
theorem Chn.enter (c : Chn M m w n f p q) {x a : Nat} : ∀ d, a + d ≤ n → ¬ In m (f a) x → In m (f (a + d)) x → ∃ i, i < n ∧ q i = x
  | 0, _, h1, h2 => absurd h2 h1
  | d + 1, h, h1, h2 => by
    by_cases e : In m (f (a + d)) x
    · exact c.enter d (by omega) h1 e
    · obtain ⟨i, hi, hx⟩ := h2
      have hb := (c.st (a + d) (by omega)).piv.b i hi
      rw [← Nat.add_assoc] at hx
      rw [hx] at hb
      unfold upd at hb
      split at hb
      · exact ⟨a + d, by omega, hb.symm⟩
      · exact absurd ⟨i, hi, hb.symm⟩ e
theorem Chn.leaves (c : Chn M m w n f p q) {x a : Nat} : ∀ d, a + d ≤ n → In m (f a) x → ¬ In m (f (a + d)) x → ∃ i, i < n ∧ (f i).b (p i) = x
  | 0, _, h1, h2 => absurd h1 h2
  | d + 1, h, h1, h2 => by
    by_cases e : In m (f (a + d)) x
    · obtain ⟨i, hi, hx⟩ := e
      have hb := (c.st (a + d) (by omega)).piv.b i hi
      unfold upd at hb
      split at hb
      · rename_i he
        exact ⟨a + d, by omega, by rw [← he]; exact hx⟩
      · exact absurd ⟨i, hi, hb.trans hx⟩ h2
    · exact c.leaves d (by omega) h1 e
def Nul (m r : Nat) (T : Tab) (c : Nat) : Prop := ∀ i, i < m → T.b i = c → T.R i r = 0
theorem Stp.nulF {M : Vs} {m w : Nat} {T T' : Tab} {p q : Nat} (t : Stp m w T T' p q) (o : Ok M m w T) (hz : T.R p (w + m) = 0) {x : Nat} : Nul m (w + m) T x ↔ Nul m (w + m) T' x := by
  have hp := o.good.pos
  have hby := t.piv.by'
  constructor
  · intro h i hi hx
    by_cases e : i = p
    · subst e
      rw [t.piv.own _ (by omega)]
      exact hz
    · rw [t.piv.b i hi, upd_ne _ _ e] at hx
      have h1 := t.piv.ex o.good (k := i) (c := w + m) (by omega) e (by omega)
      rw [h i hi hx, hz, Int.zero_mul, Int.mul_zero] at h1
      rcases Int.mul_eq_zero.mp h1 with h2 | h2
      · omega
      · exact h2
  · intro h i hi hx
    by_cases e : i = p
    · subst e; exact hz
    · have h1 := t.piv.ex o.good (k := i) (c := w + m) (by omega) e (by omega)
      rw [h i hi (by rw [t.piv.b i hi, upd_ne _ _ e]; exact hx), hz, Int.mul_zero, Int.mul_zero] at h1
      have h3 : T.R i (w + m) * T.R p q = 0 := by omega
      rcases Int.mul_eq_zero.mp h3 with h2 | h2
      · exact h2
      · omega
theorem max_ex (q : Nat → Nat) : ∀ n : Nat, 0 < n → ∃ i, i < n ∧ ∀ j, j < n → q j ≤ q i
  | 0, h => absurd h (by omega)
  | 1, _ => ⟨0, by omega, fun j hj => by rw [show j = 0 by omega]; exact Nat.le_refl _⟩
  | n + 2, _ => by
    obtain ⟨i, hi, h⟩ := max_ex q (n + 1) (by omega)
    by_cases e : q i ≤ q (n + 1)
    · refine ⟨n + 1, by omega, fun j hj => ?_⟩
      by_cases hj2 : j = n + 1
      · rw [hj2]; exact Nat.le_refl _
      · exact Nat.le_trans (h j (by omega)) e
    · refine ⟨i, by omega, fun j hj => ?_⟩
      by_cases hj2 : j = n + 1
      · rw [hj2]; omega
      · exact h j (by omega)
/-- no basis comes again -/
theorem Chn.noRing (c : Chn M m w n f p q) (hn : 0 < n) (hb : ∀ i, i < m → (f 0).b i = (f n).b i) : False := by
  have o := c.all
  obtain ⟨hu, hR⟩ := (o 0 (by omega)).good.uniq (o n (by omega)).good hb
  have hin : ∀ x, In m (f 0) x ↔ In m (f n) x := fun x =>
    ⟨fun ⟨i, hi, h⟩ => ⟨i, hi, by rw [← hb i hi]; exact h⟩, fun ⟨i, hi, h⟩ => ⟨i, hi, by rw [hb i hi]; exact h⟩⟩
  have pos := fun i (h : i ≤ n) => (o i h).good.pos
  have heq : ∀ i, i ≤ n → (f i).R m (w + m) * (f 0).u = (f 0).R m (w + m) * (f i).u := fun i hi => by
    have h1 := c.objs 0 i (by omega)
    have h2 := c.objs i (n - i) (by omega)
    rw [Nat.zero_add] at h1
    rw [show i + (n - i) = n by omega, ← hu, ← hR m (w + m) (by omega) (by omega)] at h2
    omega
  have flat : ∀ i, i < n → (f i).R (p i) (w + m) = 0 := fun i hi => by
    refine (c.st i hi).flat (o i (by omega)) ?_
    have h1 := heq i (by omega)
    have h2 := heq (i + 1) (by omega)
    have h0 := pos 0 (by omega)
    have : (f 0).u * ((f i).R m (w + m) * (f (i + 1)).u) = (f 0).u * ((f (i + 1)).R m (w + m) * (f i).u) := by
      have e1 : (f 0).u * ((f i).R m (w + m) * (f (i + 1)).u) = (f i).R m (w + m) * (f 0).u * (f (i + 1)).u := by simp only [Int.mul_comm, Int.mul_left_comm]
      have e2 : (f 0).u * ((f (i + 1)).R m (w + m) * (f i).u) = (f (i + 1)).R m (w + m) * (f 0).u * (f i).u := by simp only [Int.mul_comm, Int.mul_left_comm]
      rw [e1, e2, h1, h2]
      simp only [Int.mul_comm, Int.mul_left_comm]
    exact Int.eq_of_mul_eq_mul_left (by omega) this
  obtain ⟨a, ha, hmax⟩ := max_ex q n hn
  have sa := c.st a ha
  have oa := o a (by omega)
  have ta : ¬ In m (f a) (q a) := fun ⟨i, hi, h⟩ => sa.new oa hi h
  have ta1 : In m (f (a + 1)) (q a) := ⟨p a, sa.piv.hp, by rw [sa.piv.b _ sa.piv.hp, upd_self]⟩
  have hl : ∃ i, i < n ∧ (f i).b (p i) = q a := by
    by_cases h : In m (f n) (q a)
    · have := c.leaves (x := q a) (a := 0) a (by omega) ((hin _).mpr h) (by rw [Nat.zero_add]; exact ta)
      exact this
    · exact c.leaves (x := q a) (a := a + 1) (n - (a + 1)) (by omega) ta1 (by rw [show a + 1 + (n - (a + 1)) = n by omega]; exact h)
  obtain ⟨d, hd, hleave⟩ := hl
  have sd := c.st d hd
  have od := o d (by omega)
  have hst : q d < q a := by
    have h1 := hmax d hd
    have h2 := sd.new od sd.piv.hp
    rw [hleave] at h2
    omega
  have h2 := od.good.two oa.good (s := q d) (by have := sd.hq; omega)
  have hneg : (f d).R m (q d) * (f a).u < 0 := Int.mul_neg_of_neg_of_pos sd.neg (pos a (by omega))
  have hge : 0 ≤ (f d).u * (f a).R m (q d) := Int.mul_nonneg (by have := pos d (by omega); omega) (sa.least _ hst)
  obtain ⟨k, hk, hkp⟩ := sm_pos (n := m) (f := fun k => (f d).R k (q d) * (f a).R m ((f d).b k)) (by omega)
  have hne : (f a).R m ((f d).b k) ≠ 0 := fun e => by
    simp only [e, Int.mul_zero] at hkp
    omega
  have hnb : ¬ In m (f a) ((f d).b k) := fun ⟨i, hi, h⟩ => by
    have := oa.good.basic (i := m) (by omega) hi
    rw [h, if_neg (by omega)] at this
    exact hne this
  by_cases hkt : (f d).b k = q a
  · -- the one that leaves
    have hkp2 : k = p d := by
      have h1 := od.good.basic (i := k) (by omega) sd.piv.hp
      have h3 := od.good.basic (i := k) (by omega) hk
      rw [hleave, ← hkt] at h1
      rw [h1] at h3
      have := pos d (by omega)
      by_cases e : k = p d
      · exact e
      · rw [if_neg e, if_pos rfl] at h3; omega
    subst hkp2
    simp only [hkt] at hkp
    have h3 := sd.piv.by'
    have h4 := Int.mul_neg_of_pos_of_neg h3 sa.neg
    omega
  · have hin2 : In m (f d) ((f d).b k) := ⟨k, hk, rfl⟩
    have hent : ∃ i, i < n ∧ q i = (f d).b k := by
      by_cases l : a < d
      · exact c.enter (a := a) (d - a) (by omega) hnb (by rw [show a + (d - a) = d by omega]; exact hin2)
      · by_cases h0 : In m (f 0) ((f d).b k)
        · exact c.enter (a := a) (n - a) (by omega) hnb (by rw [show a + (n - a) = n by omega]; exact (hin _).mp h0)
        · exact c.enter (a := 0) d (by omega) h0 (by rw [Nat.zero_add]; exact hin2)
    obtain ⟨i, hi, hqi⟩ := hent
    have hlt : (f d).b k < q a := by
      have := hmax i hi
      omega
    have hnn := sa.least _ hlt
    have hRk : 0 < (f d).R k (q d) := by
      by_cases e : 0 < (f d).R k (q d)
      · exact e
      · have : 0 ≤ (- (f d).R k (q d)) * (f a).R m ((f d).b k) := Int.mul_nonneg (by omega) hnn
        rw [Int.neg_mul] at this
        omega
    have hnul : Nul m (w + m) (f a) ((f d).b k) := fun i hi h => absurd ⟨i, hi, h⟩ hnb
    have step : ∀ i, i < n → ∀ x, Nul m (w + m) (f i) x ↔ Nul m (w + m) (f (i + 1)) x := fun i hi x => (c.st i hi).nulF (o i (by omega)) (flat i hi)
    have hall : ∀ j, j ≤ n → ∀ x, Nul m (w + m) (f 0) x ↔ Nul m (w + m) (f j) x := by
      intro j
      induction j with
      | zero => exact fun _ x => Iff.rfl
      | succ j ih => exact fun hj x => (ih (by omega) x).trans (step j (by omega) x)
    have hz := (hall d (by omega) _).mp ((hall a (by omega) _).mpr hnul) k hk rfl
    have := sd.leave k hk hRk
    rw [flat d hd, hz, Int.zero_mul, Int.zero_mul, hleave] at this
    omega
end
end Sx

/-! The search's end, and what it tells. -/
namespace Sx
def code (K : Nat) (b : Nat → Nat) : Nat → Nat
  | 0 => 0
  | m + 1 => code K b m + b m * K ^ m
theorem code_lt {K : Nat} {b : Nat → Nat} : ∀ {m : Nat}, (∀ i, i < m → b i < K) → code K b m < K ^ m
  | 0, _ => by simp [code]
  | m + 1, h => by
    have h1 := code_lt (m := m) fun i hi => h i (by omega)
    have h2 := h m (by omega)
    have h3 : (b m + 1) * K ^ m ≤ K * K ^ m := Nat.mul_le_mul_right _ h2
    rw [Nat.add_mul, Nat.one_mul] at h3
    simp only [code]
    rw [Nat.pow_succ, Nat.mul_comm (K ^ m)]
    omega
theorem code_inj {K : Nat} {b b' : Nat → Nat} : ∀ {m : Nat}, (∀ i, i < m → b i < K) → (∀ i, i < m → b' i < K) → code K b m = code K b' m → ∀ i, i < m → b i = b' i
  | 0, _, _, _, i, hi => absurd hi (by omega)
  | m + 1, h, h', e, i, hi => by
    have h1 := code_lt (m := m) fun i hi => h i (by omega)
    have h2 := code_lt (m := m) fun i hi => h' i (by omega)
    simp only [code] at e
    have hp : 0 < K ^ m := by omega
    have e1 : b m = b' m := by
      have q1 : (code K b m + b m * K ^ m) / K ^ m = b m := by rw [Nat.add_mul_div_right _ _ hp, Nat.div_eq_of_lt h1, Nat.zero_add]
      have q2 : (code K b' m + b' m * K ^ m) / K ^ m = b' m := by rw [Nat.add_mul_div_right _ _ hp, Nat.div_eq_of_lt h2, Nat.zero_add]
      rw [← q1, ← q2, e]
    by_cases hm : i = m
    · rw [hm]; exact e1
    · exact code_inj (m := m) (fun i hi => h i (by omega)) (fun i hi => h' i (by omega)) (by rw [e1] at e; omega) i (by omega)
theorem nodup_le : ∀ (n : Nat) (l : List Nat), l.Nodup → (∀ a ∈ l, a < n) → l.length ≤ n
  | 0, l, _, h => by
    cases l with
    | nil => exact Nat.le_refl _
    | cons a l => exact absurd (h a List.mem_cons_self) (by omega)
  | n + 1, l, nd, h => by
    by_cases hm : n ∈ l
    · have h1 := nodup_le n (l.erase n) (nd.erase n) (fun a ha => by
        have h2 := h a (List.mem_of_mem_erase ha)
        have h3 : a ≠ n := fun e => by
          subst e
          exact (List.Nodup.mem_erase_iff nd).mp ha |>.1 rfl
        omega)
      rw [List.length_erase_of_mem hm] at h1
      omega
    · have h1 := nodup_le n l nd (fun a ha => by
        have h2 := h a ha
        have h3 : a ≠ n := fun e => hm (e ▸ ha)
        omega)
      omega
theorem nodup_map {α β : Type} {g : α → β} : ∀ {l : List α}, (∀ i ∈ l, ∀ j ∈ l, g i = g j → i = j) → l.Nodup → (l.map g).Nodup
  | [], _, _ => List.Pairwise.nil
  | a :: l, h, nd => by
    rw [List.map_cons, List.nodup_cons]
    rw [List.nodup_cons] at nd
    refine ⟨fun hm => ?_, nodup_map (fun i hi j hj => h i (List.mem_cons_of_mem _ hi) j (List.mem_cons_of_mem _ hj)) nd.2⟩
    obtain ⟨b, hb, e⟩ := List.mem_map.mp hm
    exact nd.1 (h b (List.mem_cons_of_mem _ hb) a List.mem_cons_self e ▸ hb)
section
variable {M : Vs} {m w n : Nat} {f : Nat → Tab} {p q : Nat → Nat}
theorem Chn.cut (c : Chn M m w n f p q) {i j : Nat} (h : i + j ≤ n) : Chn M m w j (fun k => f (i + k)) (fun k => p (i + k)) (fun k => q (i + k)) :=
  ⟨c.all i (by omega), fun k hk => c.st (i + k) (by omega)⟩
theorem Chn.short (c : Chn M m w n f p q) : n + 1 ≤ (w + m) ^ m := by
  have h := nodup_le ((w + m) ^ m) ((List.range (n + 1)).map fun i => code (w + m) (f i).b m) (by
    refine nodup_map (fun i hi j hj e => ?_) List.nodup_range
    have hi' := List.mem_range.mp hi
    have hj' := List.mem_range.mp hj
    have hb := code_inj (fun k hk => (c.all i (by omega)).bas k hk) (fun k hk => (c.all j (by omega)).bas k hk) e
    rcases Nat.lt_trichotomy i j with l | l | l
    · exact ((c.cut (i := i) (j := j - i) (by omega)).noRing (by omega) (fun k hk => by
        show (f (i + 0)).b k = (f (i + (j - i))).b k
        rw [Nat.add_zero, show i + (j - i) = j by omega]
        exact hb k hk)).elim
    · exact l
    · exact ((c.cut (i := j) (j := i - j) (by omega)).noRing (by omega) (fun k hk => by
        show (f (j + 0)).b k = (f (j + (i - j))).b k
        rw [Nat.add_zero, show j + (i - j) = i by omega]
        exact (hb k hk).symm)).elim) (fun a ha => by
    obtain ⟨i, hi, rfl⟩ := List.mem_map.mp ha
    exact code_lt fun k hk => (c.all i (by have := List.mem_range.mp hi; omega)).bas k hk)
  rw [List.length_map, List.length_range] at h
  exact h
end
section
variable {M : Vs} {m w : Nat} {T : Tab}
theorem sum_own (f : Nat → Int) : sm (w + m + 1) (fun c => f c * (if w ≤ c ∧ c < w + m then 1 else 0)) = sm m fun k => f (w + k) := by
  have e : sm (w + m + 1) (fun c => f c * (if w ≤ c ∧ c < w + m then (1 : Int) else 0)) = sm (w + m) (fun c => f c * (if w ≤ c ∧ c < w + m then (1 : Int) else 0)) + f (w + m) * (if w ≤ w + m ∧ w + m < w + m then (1 : Int) else 0) := rfl
  rw [e, if_neg (by omega), Int.mul_zero, Int.add_zero, sm_split, sm_zero' (n := w) (fun i hi => by rw [if_neg (by omega), Int.mul_zero]), Int.zero_add]
  exact sm_congr fun k hk => by rw [if_pos (by omega), Int.mul_one]
theorem Sys.tot (S : Sys M m w) {c : Nat} (hc : c < w + m + 1) : M m c + sm m (fun i => M i c) = if w ≤ c ∧ c < w + m then 1 else 0 := by
  by_cases h : w ≤ c ∧ c < w + m
  · rw [if_pos h]
    have e : c = w + (c - w) := by omega
    rw [e, S.ownL _ (by omega), sm_one (p := c - w) (by omega) (fun i hi hn => by rw [S.own i _ hi (by omega), if_neg hn]), S.own _ _ (by omega) (by omega), if_pos rfl]
    rfl
  · rw [if_neg h, S.last c (by omega)]
    omega
/-- the sum of the own ones of what adds up -/
theorem Sys.sums (S : Sys M m w) {x : Nat → Int} {y : Nat → Int} (h : ∀ j, j < m + 1 → sm (w + m + 1) (fun c => x c * M j c) = y j) : sm m (fun k => x (w + k)) = y m + sm m y := by
  rw [← sum_own x, sm_congr (fun c hc => by rw [← S.tot hc, Int.mul_add, ← sm_mul]), sm_add, sm_comm, h m (by omega)]
  congr 1
  exact sm_congr fun i hi => h i (by omega)
theorem Ok.leaves (S : Sys M m w) (o : Ok M m w T) {q : Nat} (hq : q < w) (hn : T.R m q < 0) : ∃ k, k < m ∧ 0 < T.R k q := by
  by_cases hex : ∃ k, k < m ∧ 0 < T.R k q
  · exact hex
  · exfalso
    have hall : ∀ k, k < m → T.R k q ≤ 0 := fun k hk => by
      by_cases h : 0 < T.R k q
      · exact absurd ⟨k, hk, h⟩ hex
      · omega
    have h := S.sums (x := dir T m q) (y := fun j => if j = m then T.R m q else 0) (fun j hj => by
      have := o.good.dirs (s := q) (by omega) hj
      by_cases e : j = m
      · rw [if_pos e] at this ⊢; omega
      · rw [if_neg e] at this ⊢; omega)
    simp only [if_true] at h
    rw [sm_zero' (f := fun j => if j = m then T.R m q else 0) (fun i hi => if_neg (by omega))] at h
    have : 0 ≤ sm m (fun k => dir T m q (w + k)) := sm_nonneg fun k hk => by
      unfold dir
      have h1 : sm m (fun i => if T.b i = w + k then T.R i q else 0) ≤ 0 := by
        have := sm_le (n := m) (f := fun i => if T.b i = w + k then T.R i q else 0) (g := fun _ => 0) (fun i hi => by
          split
          · exact hall i hi
          · exact Int.le_refl _)
        rwa [sm_zero' fun _ _ => rfl] at this
      have := o.good.pos
      split <;> omega
    omega
/-- the numbers that stand in the basis -/
def val (T : Tab) (m r : Nat) : Nat → Int := fun c => sm m fun k => if T.b k = c then T.R k r else 0
theorem val_nonneg (o : Ok M m w T) (c : Nat) : 0 ≤ val T m (w + m) c := sm_nonneg fun k hk => by
  split
  · exact o.feas k hk
  · exact Int.le_refl _
theorem val_sum {n : Nat} (f : Nat → Int) (r : Nat) (hb : ∀ k, k < m → T.b k < n) : sm n (fun c => val T m r c * f c) = sm m fun k => T.R k r * f (T.b k) := by
  unfold val
  rw [sm_congr (fun c _ => (sm_mulr (f c) _ m).symm), sm_comm (fun c k => (if T.b k = c then T.R k r else 0) * f c)]
  refine sm_congr fun k hk => ?_
  rw [sm_congr (fun c _ => by rw [show (if T.b k = c then T.R k r else 0) = (if c = T.b k then T.R k r else 0) by
    by_cases e : T.b k = c
    · rw [if_pos e, if_pos e.symm]
    · rw [if_neg e, if_neg (Ne.symm e)]]), sm_at (hb k hk)]
theorem Ok.vals (o : Ok M m w T) {j : Nat} (hj : j < m + 1) : sm (w + m + 1) (fun c => val T m (w + m) c * M j c) = T.u * M j (w + m) - (if j = m then T.R m (w + m) else 0) := by
  rw [val_sum _ _ o.good.bas, o.good.comb (w + m) j (by omega) hj]
  simp only [sm]
  rw [bv_m, sm_congr (f := fun i => T.R i (w + m) * bv M m T.b i j) (g := fun i => T.R i (w + m) * M j (T.b i)) (fun i hi => by rw [bv_lt hi])]
  by_cases e : j = m
  · simp only [if_pos e]; omega
  · simp only [if_neg e]; omega
theorem Ok.rest (S : Sys M m w) (o : Ok M m w T) : sm m (fun k => val T m (w + m) (w + k)) = - T.R m (w + m) := by
  have h := S.sums (x := val T m (w + m)) (y := fun j => T.u * M j (w + m) - (if j = m then T.R m (w + m) else 0)) (fun j hj => o.vals hj)
  rw [h]
  simp only [if_true]
  rw [sm_sub, sm_mul, sm_zero' (f := fun j => if j = m then T.R m (w + m) else 0) (fun i hi => if_neg (by omega)), S.last (w + m) (.inr rfl), Int.mul_neg]
  omega
/-- where nothing is left: numbers from 0 on that add up -/
theorem Ok.found (S : Sys M m w) (o : Ok M m w T) (h0 : T.R m (w + m) = 0) {i : Nat} (hi : i < m) : sm w (fun c => val T m (w + m) c * M i c) = T.u * M i (w + m) := by
  have h := o.vals (j := i) (by omega)
  rw [if_neg (by omega), Int.sub_zero] at h
  rw [← h]
  have hr := o.rest S
  rw [h0] at hr
  have hz := sm_all0 (fun k _ => val_nonneg o (w + k)) hr
  have hv : val T m (w + m) (w + m) = 0 := sm_zero' fun k hk => if_neg (by have := o.bas k hk; omega)
  have e : sm (w + m + 1) (fun c => val T m (w + m) c * M i c) = sm (w + m) (fun c => val T m (w + m) c * M i c) + val T m (w + m) (w + m) * M i (w + m) := rfl
  rw [e, hv, Int.zero_mul, Int.add_zero, sm_split, sm_zero' (n := m) (fun k hk => by rw [hz k hk, Int.zero_mul]), Int.add_zero]
end
end Sx

/-! Sx: a determinant is at most the product of its vectors' sums of amounts; what weights come to at most. -/
namespace Sx
def pr : Nat → (Nat → Int) → Int
  | 0, _ => 1
  | n + 1, f => pr n f * f n
section
variable {M : Vs} {m w : Nat} {T : Tab}
end
end Sx

/-! Mir: the search's steps: which column comes in, which row gives way, all rows anew. -/
namespace Mir
namespace Y
open PySem PySem.Spec PyProof.Rows L2 Mir
def ro (rows : List (List Int)) (i : Nat) : List Int := rows.getD i []
def en (r : List Int) (c : Nat) : Int := r.getD c 0
def bt (bs : List Nat) (i : Nat) : Nat := bs.getD i 0
def eI (rows : List (List Int)) (i c : Nat) : Int := en (ro rows i) c
theorem en_get {r : List Int} {c : Nat} (h : c < r.length) : r[c]? = some (en r c) := by
  unfold en
  rw [List.getD_eq_getElem?_getD, List.getElem?_eq_getElem h]; rfl
structure Shp (rows : List (List Int)) (n C : Nat) : Prop where
  len : rows.length = n
  wid : ∀ r ∈ rows, r.length = C
/-- a number that isn't too great -/
def Sm (x : Int) : Prop := x.natAbs < 2 ^ 4000
def AllSm (rows : List (List Int)) : Prop := ∀ r ∈ rows, ∀ x ∈ r, Sm x
theorem Shp.get {rows : List (List Int)} {n C i : Nat} (h : Shp rows n C) (hi : i < n) : rows[i]? = some (ro rows i) := by
  unfold ro
  rw [List.getD_eq_getElem?_getD, List.getElem?_eq_getElem (by rw [h.len]; exact hi)]; rfl
theorem Shp.row {rows : List (List Int)} {n C i : Nat} (h : Shp rows n C) (hi : i < n) : (ro rows i).length = C := h.wid _ (List.mem_of_getElem? (h.get hi))
/-- the row that gives way -/
structure Lv (rows : List (List Int)) (bs : List Nat) (c r n p : Nat) : Prop where
  lt : p < n
  pos : 0 < eI rows p c
  least : ∀ k, k < n → 0 < eI rows k c → eI rows p r * eI rows k c < eI rows k r * eI rows p c ∨ eI rows p r * eI rows k c = eI rows k r * eI rows p c ∧ bt bs p ≤ bt bs k
theorem cross {a b c x y z : Int} (hx : 0 < x) (hy : 0 < y) (hz : 0 < z) (h1 : a * y ≤ b * x) (h2 : b * z ≤ c * y) : a * z ≤ c * x := Sx.mul_le_trans hy hx hz h1 h2
theorem cross_lt {a b c x y z : Int} (hx : 0 < x) (hy : 0 < y) (hz : 0 < z) (h1 : a * y < b * x) (h2 : b * z ≤ c * y) : a * z < c * x := by
  have e1 : a * y * z < b * x * z := Int.mul_lt_mul_of_pos_right h1 hz
  have e2 : b * z * x ≤ c * y * x := Int.mul_le_mul_of_nonneg_right h2 (by omega)
  have e3 : y * (a * z) < y * (c * x) := by
    have q1 : y * (a * z) = a * y * z := by simp only [Int.mul_comm, Int.mul_left_comm]
    have q2 : b * x * z = b * z * x := by simp only [Int.mul_comm, Int.mul_left_comm]
    have q3 : c * y * x = y * (c * x) := by simp only [Int.mul_comm, Int.mul_left_comm]
    omega
  exact Int.lt_of_mul_lt_mul_left e3 (by omega)
theorem Lv.next {rows : List (List Int)} {bs : List Nat} {c r n p : Nat} (h : Lv rows bs c r n p) (hn : 0 < eI rows n c) (hb : eI rows n r * eI rows p c < eI rows p r * eI rows n c ∨ eI rows n r * eI rows p c = eI rows p r * eI rows n c ∧ bt bs n < bt bs p) : Lv rows bs c r (n + 1) n := by
  refine ⟨Nat.lt_succ_self n, hn, fun k hk hkc => ?_⟩
  by_cases e : k = n
  · subst e; exact .inr ⟨rfl, Nat.le_refl _⟩
  · have h1 := h.least k (by omega) hkc
    have hp := h.pos
    rcases hb with hb | ⟨hb, hl⟩
    · refine .inl (cross_lt (b := eI rows p r) hn hp hkc hb ?_)
      rcases h1 with h1 | h1
      · omega
      · omega
    · rcases h1 with h1 | ⟨h1, h2⟩
      · left
        have e1 : eI rows n r * eI rows k c ≤ eI rows k r * eI rows n c := cross (b := eI rows p r) hn hp hkc (by omega) (by omega)
        rcases Int.lt_or_eq_of_le e1 with e1 | e1
        · exact e1
        · exfalso
          -- then p and k are alike
          have e2 : eI rows k r * eI rows p c ≤ eI rows p r * eI rows k c := cross (b := eI rows n r) hkc hn hp (by omega) (by omega)
          omega
      · right
        have e1 : eI rows n r * eI rows k c ≤ eI rows k r * eI rows n c := cross (b := eI rows p r) hn hp hkc (by omega) (by omega)
        have e2 : eI rows k r * eI rows n c ≤ eI rows n r * eI rows k c := cross (b := eI rows p r) hkc hp hn (by omega) (by omega)
        exact ⟨by omega, by omega⟩
theorem Lv.keep {rows : List (List Int)} {bs : List Nat} {c r n p : Nat} (h : Lv rows bs c r n p) (hb : 0 < eI rows n c → ¬ (eI rows n r * eI rows p c < eI rows p r * eI rows n c ∨ eI rows n r * eI rows p c = eI rows p r * eI rows n c ∧ bt bs n < bt bs p)) : Lv rows bs c r (n + 1) p := by
  refine ⟨Nat.lt_succ_of_lt h.lt, h.pos, fun k hk hkc => ?_⟩
  by_cases e : k = n
  · subst e
    have := hb hkc
    by_cases q : eI rows p r * eI rows k c < eI rows k r * eI rows p c
    · exact .inl q
    · right
      exact ⟨by omega, by omega⟩
  · exact h.least k (by omega) hkc
end Y
end Mir

/-! Mir: all rows anew; the rows to begin with. -/
namespace Mir
namespace Y
open PySem PySem.Spec PyProof.Rows L2 Mir
/-- one row anew -/
def pivR (own : List Int) (by' take u : Int) (row : List Int) : List Int := (row.zip own).map fun p => (p.1 * by' - take * p.2).fdiv u
def pivL (rows : List (List Int)) (p c : Nat) (u : Int) : List (List Int) := rows.zipIdx.map fun x => if x.2 = p then x.1 else pivR (ro rows p) (eI rows p c) (en x.1 c) u x.1
end Y
end Mir

/-! Mir: the rows to begin with. -/
namespace Mir
namespace Y
open PySem PySem.Spec PyProof.Rows L2 Mir
/-- columns: where each lies, and its numbers -/
abbrev Cols := List (Nat × List Int)
structure ColsIn (m : Mem) (cs : Cols) (n : Nat) : Prop where
  at' : ∀ p ∈ cs, m[p.1]? = some (.lst (p.2.map .int))
  len : ∀ p ∈ cs, p.2.length = n
theorem ColsIn.kp {m m' : Mem} {cs : Cols} {n : Nat} (h : ColsIn m cs n) (k : Kp m m') : ColsIn m' cs n := ⟨fun p hp => k.get (h.at' p hp), h.len⟩
def sgI (x : Int) : Int := if 0 ≤ x then 1 else -1
theorem sgI_abs (x : Int) : (sgI x).natAbs = 1 := by unfold sgI; split <;> rfl
def begR (cs : Cols) (due : List Int) (i : Nat) : List Int := cs.map (fun p => sgI (en due i) * en p.2 i) ++ ((List.range due.length).map fun k => if i = k then (1 : Int) else 0) ++ [sgI (en due i) * en due i]
def begS (cs : Cols) (due : List Int) (c : Nat) : Int := 0 - ((List.range due.length).map fun i => en (begR cs due i) c).sum
def begN (cs : Cols) (due : List Int) : List Int := (List.range cs.length).map (begS cs due) ++ List.replicate due.length 0 ++ [begS cs due (cs.length + due.length)]
def begL (cs : Cols) (due : List Int) : List (List Int) := (List.range due.length).map (begR cs due) ++ [begN cs due]
end Y
end Mir

/-! Mir: the rows to begin with are a system; chains; bounds. -/
namespace Mir
namespace Y
open PySem PySem.Spec PyProof.Rows L2 Mir
theorem en_app_l {xs ys : List Int} {c : Nat} (h : c < xs.length) : en (xs ++ ys) c = en xs c := by
  unfold en
  rw [List.getD_eq_getElem?_getD, List.getD_eq_getElem?_getD, List.getElem?_append_left h]
theorem en_app_r {xs ys : List Int} {c : Nat} (h : xs.length ≤ c) : en (xs ++ ys) c = en ys (c - xs.length) := by
  unfold en
  rw [List.getD_eq_getElem?_getD, List.getD_eq_getElem?_getD, List.getElem?_append_right h]
theorem en_map {α : Type} {f : α → Int} {xs : List α} {c : Nat} {x : α} (h : xs[c]? = some x) : en (xs.map f) c = f x := by
  unfold en
  rw [List.getD_eq_getElem?_getD, List.getElem?_map, h]; rfl
theorem en_range {f : Nat → Int} {n c : Nat} (h : c < n) : en ((List.range n).map f) c = f c := en_map (List.getElem?_range h)
theorem sum_sm (f : Nat → Int) : ∀ n : Nat, ((List.range n).map f).sum = Sx.sm n f
  | 0 => rfl
  | n + 1 => by
    rw [List.range_succ, List.map_append, List.sum_append, sum_sm f n]
    simp [Sx.sm]
/-- a column's numbers -/
def cAt (cs : Cols) (j : Nat) : List Int := (cs.getD j (0, [])).2
theorem begN_col {cs : Cols} {due : List Int} {j : Nat} (h : j < cs.length) : en (begN cs due) j = begS cs due j := by
  unfold begN
  rw [List.append_assoc, en_app_l (by simpa using h), en_range h]
theorem begN_own {cs : Cols} {due : List Int} {k : Nat} (h : k < due.length) : en (begN cs due) (cs.length + k) = 0 := by
  unfold begN
  rw [List.append_assoc, en_app_r (by simp), List.length_map, List.length_range, Nat.add_sub_cancel_left, en_app_l (by simpa using h)]
  unfold en
  rw [List.getD_eq_getElem?_getD, List.getElem?_replicate, if_pos h]; rfl
theorem begN_due {cs : Cols} {due : List Int} : en (begN cs due) (cs.length + due.length) = begS cs due (cs.length + due.length) := by
  unfold begN
  rw [en_app_r (by simp), List.length_append, List.length_map, List.length_range, List.length_replicate, Nat.sub_self]
  rfl
def begM (cs : Cols) (due : List Int) : Sx.Vs := fun i c => eI (begL cs due) i c
theorem begM_lt {cs : Cols} {due : List Int} {i : Nat} (h : i < due.length) (c : Nat) : begM cs due i c = en (begR cs due i) c := by
  unfold begM eI ro begL
  rw [List.getD_eq_getElem?_getD, List.getElem?_append_left (by simpa using h), List.getElem?_map, List.getElem?_range h]; rfl
theorem begM_n {cs : Cols} {due : List Int} (c : Nat) : begM cs due due.length c = en (begN cs due) c := by
  unfold begM eI ro begL
  rw [List.getD_eq_getElem?_getD, List.getElem?_append_right (by simp), List.length_map, List.length_range, Nat.sub_self]; rfl
theorem begS_sm {cs : Cols} {due : List Int} (c : Nat) : begS cs due c = - Sx.sm due.length fun i => begM cs due i c := by
  unfold begS
  rw [sum_sm, Sx.sm_congr (g := fun i => begM cs due i c) (fun i hi => (begM_lt hi c).symm)]
  omega
/-! ### bounds -/
structure Lit (cs : Cols) (due : List Int) : Prop where
  col : ∀ p ∈ cs, ∀ x ∈ p.2, x.natAbs ≤ 2 ^ 20
  du : ∀ x ∈ due, x.natAbs ≤ 2 ^ 20
  few : due.length ≤ 30
theorem en_lit {xs : List Int} {b : Nat} (h : ∀ x ∈ xs, x.natAbs ≤ b) (c : Nat) : (en xs c).natAbs ≤ b := by
  unfold en
  rw [List.getD_eq_getElem?_getD]
  cases hx : xs[c]? with
  | none => exact Nat.zero_le _
  | some x => exact h x (List.mem_of_getElem? hx)
theorem begR_lit {cs : Cols} {due : List Int} (h : Lit cs due) (i c : Nat) : (en (begR cs due i) c).natAbs ≤ 2 ^ 20 := by
  refine en_lit (fun x hx => ?_) c
  unfold begR at hx
  rcases List.mem_append.mp hx with hx | hx
  · rcases List.mem_append.mp hx with hx | hx
    · obtain ⟨p, hp, rfl⟩ := List.mem_map.mp hx
      rw [Int.natAbs_mul, sgI_abs, Nat.one_mul]
      exact en_lit (h.col p hp) i
    · obtain ⟨k, _, rfl⟩ := List.mem_map.mp hx
      split
      · decide
      · exact Nat.zero_le _
  · rw [List.mem_singleton.mp hx, Int.natAbs_mul, sgI_abs, Nat.one_mul]
    exact en_lit h.du i
theorem begM_lit {cs : Cols} {due : List Int} (h : Lit cs due) {i c : Nat} (hi : i < due.length + 1) (hc : c < cs.length + due.length + 1) : (begM cs due i c).natAbs ≤ 2 ^ 25 := by
  by_cases e : i < due.length
  · rw [begM_lt e]
    exact Nat.le_trans (begR_lit h i c) (by decide)
  · have : i = due.length := by omega
    subst this
    have hs : (Sx.sm due.length fun i => begM cs due i c).natAbs ≤ 2 ^ 25 := by
      have h1 := Sx.sm_abs (fun i => begM cs due i c) due.length
      have h2 := Sx.sm_le (n := due.length) (f := fun i => ((begM cs due i c).natAbs : Int)) (g := fun _ => ((2 ^ 20 : Nat) : Int)) (fun i hi => by
        rw [begM_lt hi]
        exact Int.ofNat_le.mpr (begR_lit h i c))
      rw [Sx.sm_const] at h2
      have h3 : ((due.length : Nat) : Int) * ((2 ^ 20 : Nat) : Int) ≤ ((2 ^ 25 : Nat) : Int) := by
        have : due.length * 2 ^ 20 ≤ 2 ^ 25 := Nat.le_trans (Nat.mul_le_mul_right _ h.few) (by decide)
        rw [← Int.natCast_mul]
        exact Int.ofNat_le.mpr this
      omega
    rcases Nat.lt_or_ge c cs.length with hcl | hcl
    · rw [begM_n, begN_col hcl, begS_sm, Int.natAbs_neg]
      exact hs
    · by_cases hcd : c = cs.length + due.length
      · subst hcd
        rw [begM_n, begN_due, begS_sm, Int.natAbs_neg]
        exact hs
      · obtain ⟨k, rfl⟩ : ∃ k, c = cs.length + k := ⟨c - cs.length, by omega⟩
        rw [begM_n, begN_own (by omega)]
        exact Nat.zero_le _
theorem fac_le : ∀ {n : Nat}, n ≤ 32 → Sx.fac n ≤ 2 ^ (5 * n)
  | 0, _ => by decide
  | n + 1, h => by
    have ih := fac_le (n := n) (by omega)
    show (n + 1) * Sx.fac n ≤ _
    rw [show 5 * (n + 1) = 5 + 5 * n by omega, Nat.pow_add]
    exact Nat.mul_le_mul (by omega) ih
def SmB (x : Int) : Prop := x.natAbs ≤ 2 ^ 1045
theorem good_smB {cs : Cols} {due : List Int} (h : Lit cs due) {T : Sx.Tab} (g : Sx.Good (begM cs due) due.length (cs.length + due.length + 1) T) {i c : Nat} (hi : i < due.length + 1) (hc : c < cs.length + due.length + 1) : SmB (T.R i c) := by
  have h1 := g.bound (B := 2 ^ 25) (fun j c hj hc => begM_lit h hj hc) (by decide) hi hc
  have h2 := fac_le (n := due.length + 1) (by have := h.few; omega)
  refine Nat.le_trans h1 (Nat.le_trans (Nat.mul_le_mul_right _ h2) ?_)
  rw [← Nat.pow_mul, ← Nat.pow_add]
  exact Nat.pow_le_pow_right (by decide) (by have := h.few; omega)
theorem SmB.sm {x : Int} (h : SmB x) : Sm x := Nat.lt_of_le_of_lt h (Nat.pow_lt_pow_right (by decide) (by decide))
/-! ### chains -/
def tabL (rows : List (List Int)) (u : Int) (bs : List Nat) : Sx.Tab := ⟨eI rows, u, bt bs⟩
def Rchd (M : Sx.Vs) (n w t : Nat) (T : Sx.Tab) : Prop := ∃ f p q, Sx.Chn M n w t f p q ∧ f t = T
theorem Rchd.zero {M : Sx.Vs} {n w : Nat} {T : Sx.Tab} (o : Sx.Ok M n w T) : Rchd M n w 0 T := ⟨fun _ => T, fun _ => 0, fun _ => 0, ⟨o, fun i h => absurd h (by omega)⟩, rfl⟩
theorem Rchd.snoc {M : Sx.Vs} {n w t : Nat} {T T' : Sx.Tab} {a c : Nat} (h : Rchd M n w t T) (s : Sx.Stp n w T T' a c) : Rchd M n w (t + 1) T' := by
  obtain ⟨f, p, q, ch, rfl⟩ := h
  refine ⟨fun i => if i ≤ t then f i else T', fun i => if i < t then p i else a, fun i => if i < t then q i else c, ⟨?_, fun i hi => ?_⟩, ?_⟩
  · show Sx.Ok M n w (if 0 ≤ t then f 0 else T')
    rw [if_pos (Nat.zero_le _)]
    exact ch.ok
  · by_cases e : i < t
    · simp only [e, if_true, show i ≤ t by omega, show i + 1 ≤ t by omega]
      exact ch.st i e
    · have : i = t := by omega
      subst this
      simp only [Nat.le_refl, if_true, Nat.lt_irrefl, if_false, show ¬ i + 1 ≤ i by omega]
      exact s
  · show (if t + 1 ≤ t then f (t + 1) else T') = T'
    rw [if_neg (by omega)]
theorem Rchd.ok {M : Sx.Vs} {n w t : Nat} {T : Sx.Tab} (h : Rchd M n w t T) : Sx.Ok M n w T := by
  obtain ⟨f, p, q, ch, rfl⟩ := h
  exact ch.all t (Nat.le_refl _)
theorem Rchd.short {M : Sx.Vs} {n w t : Nat} {T : Sx.Tab} (h : Rchd M n w t T) : t + 1 ≤ (w + n) ^ n := by
  obtain ⟨f, p, q, ch, rfl⟩ := h
  exact ch.short
/-! ### a row anew, entry by entry -/
theorem pivL_shp {rows : List (List Int)} {n C p c : Nat} {u : Int} (sh : Shp rows n C) (hp : p < n) : Shp (pivL rows p c u) n C := by
  refine ⟨by simp [pivL, sh.len], fun r hr => ?_⟩
  obtain ⟨x, hx, rfl⟩ := List.mem_map.mp hr
  have hx' := List.mem_zipIdx_iff_getElem?.mp hx
  have := sh.wid _ (List.mem_of_getElem? hx')
  split
  · exact this
  · unfold pivR
    rw [List.length_map, List.length_zip, this, sh.row hp, Nat.min_self]
theorem pivL_at {rows : List (List Int)} {n C p c : Nat} {u : Int} (sh : Shp rows n C) (hp : p < n) {k j : Nat} (hk : k < n) (hj : j < C) : eI (pivL rows p c u) k j = if k = p then eI rows k j else (eI rows k j * eI rows p c - eI rows k c * eI rows p j).fdiv u := by
  have h1 : ro (pivL rows p c u) k = if k = p then ro rows k else pivR (ro rows p) (eI rows p c) (eI rows k c) u (ro rows k) := by
    have h2 := (pivL_shp (c := c) (u := u) sh hp).get hk
    unfold pivL at h2 ⊢
    rw [List.getElem?_map, List.getElem?_zipIdx, sh.get hk] at h2
    have := Option.some.inj h2
    simp at this
    exact this.symm
  unfold eI at *
  rw [h1]
  by_cases e : k = p
  · rw [if_pos e, if_pos e]
  · rw [if_neg e, if_neg e]
    unfold pivR
    have hz : ((ro rows k).zip (ro rows p))[j]? = some (en (ro rows k) j, en (ro rows p) j) := by
      rw [List.getElem?_zip_eq_some]
      exact ⟨en_get (by rw [sh.row hk]; exact hj), en_get (by rw [sh.row hp]; exact hj)⟩
    exact en_map hz
/-- a while of many turns -/
theorem while_big {t : TM} {body : SM} {η : Env'} {m : Mem} {N : Env' → Mem → Prop} {Rt : D → Mem → Prop} (I : Nat → Env' → Mem → Prop) (n : Nat) (hn : n < 2 ^ 9000) (h0 : I n η m)
    (h : ∀ n η m, I n η m → Tri (t η m) (fun b m1 => if b = true then TriS (body η m1) (fun η2 m2 => ∃ k, k < n ∧ I k η2 m2) Rt else N η m1)) : TriS (mWhile t body η m) N Rt :=
  wh_inv I h FUEL n η m (Fr.FUEL_big hn) h0
end Y
end Mir

/-! Mir: the search. -/
namespace Mir
namespace Y
open PySem PySem.Spec PyProof.Rows L2 Mir
/-- numbers from 0 on, over one number, by which the columns come to what is due -/
structure Fnds (cs : Cols) (due : List Int) (v : Nat → Int) (u : Int) : Prop where
  pos : 0 < u
  small : u.natAbs ≤ 2 ^ 1045
  nn : ∀ j, 0 ≤ v j
  vs : ∀ j, (v j).natAbs ≤ 2 ^ 1045
  sum : ∀ i, i < due.length → Sx.sm cs.length (fun j => v j * en (cAt cs j) i) = u * en due i
/-- weights that show that there are none -/
structure Nots (cs : Cols) (due : List Int) (y : List Int) : Prop where
  len : y.length = due.length
  small : ∀ x ∈ y, x.natAbs ≤ 2 ^ 1050
  fine : ∀ B : Int, 2 ≤ B → (∀ j, j < cs.length → Sx.sm due.length (fun i => ((en (cAt cs j) i).natAbs : Int)) ≤ B) → ∀ x ∈ y, (x.natAbs : Int) ≤ B ^ due.length
  col : ∀ j, j < cs.length → Sx.sm due.length (fun i => en y i * en (cAt cs j) i) ≤ 0
  due : 0 < Sx.sm due.length (fun i => en y i * en due i)
section
variable {m : Mem} {cs : Cols} {due : List Int} {P : D → Mem → Prop}
theorem allSm_of {rows : List (List Int)} {n C : Nat} (sh : Shp rows n C) (h : ∀ i c, i < n → c < C → Sm (eI rows i c)) : AllSm rows := fun r hr x hx => by
  obtain ⟨i, hi⟩ := List.mem_iff_getElem?.mp hr
  obtain ⟨c, hc⟩ := List.mem_iff_getElem?.mp hx
  have hin : i < n := by rw [← sh.len]; exact (List.getElem?_eq_some_iff.mp hi).1
  have hcl := (List.getElem?_eq_some_iff.mp hc).1
  have h1 := sh.get hin
  rw [hi] at h1
  have h1 := Option.some.inj h1
  have h2 := en_get hcl
  rw [hc] at h2
  have h2 := Option.some.inj h2
  rw [h2, h1]
  refine h i c hin ?_
  rw [← sh.wid r hr]
  exact hcl
/-- where the search stands -/
structure At (cs : Cols) (due : List Int) (rows : List (List Int)) (u : Int) (bs : List Nat) (t : Nat) : Prop where
  sh : Shp rows (due.length + 1) (cs.length + due.length + 1)
  bl : bs.length = due.length
  ch : Rchd (begM cs due) due.length cs.length t (tabL rows u bs)
theorem At.smB {rows : List (List Int)} {u : Int} {bs : List Nat} {t : Nat} (h : Lit cs due) (a : At cs due rows u bs t) {i c : Nat} (hi : i < due.length + 1) (hc : c < cs.length + due.length + 1) : SmB (eI rows i c) := good_smB h a.ch.ok.good hi hc
theorem At.sm {rows : List (List Int)} {u : Int} {bs : List Nat} {t : Nat} (h : Lit cs due) (a : At cs due rows u bs t) : AllSm rows := allSm_of a.sh fun i c hi hc => (a.smB h hi hc).sm
theorem At.u {rows : List (List Int)} {u : Int} {bs : List Nat} {t : Nat} (h : Lit cs due) (a : At cs due rows u bs t) : u.natAbs ≤ 2 ^ 1045 := by
  have hu : ((tabL rows u bs).u).natAbs ≤ 2 ^ 1045 := by
    obtain ⟨s, hs, hu⟩ := a.ch.ok.good.unit
    rw [hu, Int.natAbs_mul]
    have hs1 : s.natAbs = 1 := by
      have : s.natAbs * s.natAbs = 1 := by rw [← Int.natAbs_mul, hs]; rfl
      exact Nat.eq_one_of_mul_eq_one_left this
    rw [hs1, Nat.one_mul]
    have h2 := fac_le (n := due.length + 1) (by have := h.few; omega)
    refine Nat.le_trans (Sx.det_le (b := 2 ^ 25) fun i j hi hj => ?_) (Nat.le_trans (Nat.mul_le_mul_right _ h2) ?_)
    · unfold Sx.bv
      split
      · rename_i hl
        exact begM_lit h hj (a.ch.ok.good.bas i hl)
      · show (if j = due.length then (1 : Int) else 0).natAbs ≤ _
        split
        · decide
        · exact Nat.zero_le _
    · rw [← Nat.pow_mul, ← Nat.pow_add]
      exact Nat.pow_le_pow_right (by decide) (by have := h.few; omega)
  exact hu
/-- one step more -/
theorem At.step {rows : List (List Int)} {u : Int} {bs : List Nat} {t p c : Nat} (a : At cs due rows u bs t) (lv : Lv rows bs c (cs.length + due.length) due.length p) (hc : c < cs.length) (hneg : eI rows due.length c < 0) (hleast : ∀ c', c' < c → 0 ≤ eI rows due.length c') :
    At cs due (pivL rows p c u) (eI rows p c) (bs.set p c) (t + 1) := by
  have hp := lv.lt
  have hupos : 0 < u := a.ch.ok.good.pos
  refine ⟨pivL_shp a.sh (by omega), by rw [List.length_set]; exact a.bl, a.ch.snoc (a := p) (c := c) ⟨⟨hp, by omega, lv.pos, rfl, fun i hi => ?_, fun j hj => ?_, fun k j hk hkp hj => ?_⟩, hc, hneg, hleast, fun k hk hkc => lv.least k hk hkc⟩⟩
  · show (bs.set p c).getD i 0 = if i = p then c else bs.getD i 0
    rw [List.getD_eq_getElem?_getD, List.getD_eq_getElem?_getD, List.getElem?_set]
    by_cases e : p = i
    · subst e
      rw [if_pos rfl, if_pos (by rw [a.bl]; exact hp), if_pos rfl]; rfl
    · rw [if_neg e, if_neg (Ne.symm e)]
  · show eI (pivL rows p c u) p j = eI rows p j
    rw [pivL_at a.sh (by omega) (by omega) hj, if_pos rfl]
  · show eI (pivL rows p c u) k j = _
    rw [pivL_at a.sh (by omega) hk hj, if_neg hkp]
    exact Int.fdiv_eq_ediv_of_nonneg _ (by omega)
end
end Y
end Mir

/-! Mir: the search, walked. -/
namespace Mir
namespace Y
open PySem PySem.Spec PyProof.Rows L2 Mir
section
variable {m : Mem} {cs : Cols} {due : List Int} {P : D → Mem → Prop}
end
end Y
end Mir

/-! Mir: columns of ways and weights; the greatest number that divides all. -/
namespace Mir
namespace Y
open PySem PySem.Spec PyProof.Rows L2 Mir
end Y
end Mir

/-! Mir: the greatest number that divides all; mixtures. -/
namespace Mir
namespace Y
open PySem PySem.Spec PyProof.Rows L2 Mir
end Y
end Mir

/-! Mir: mixtures, plain. -/
namespace Mir
namespace Y
open PySem PySem.Spec PyProof.Rows L2 Mir
open Sx (sm)
def wy (r : Rows') (p : Nat) : Nat × Nat × Nat := (wayL r).getD p (0, 0, 0)
theorem wy_get {r : Rows'} {p : Nat} (h : p < (wayL r).length) : (wayL r)[p]? = some (wy r p) := by
  unfold wy
  rw [List.getD_eq_getElem?_getD, List.getElem?_eq_getElem h]; rfl
theorem wy_way {r : Rows'} {p : Nat} (h : p < (wayL r).length) : way r (wy r p).1 (wy r p).2.1 (wy r p).2.2 := wayL_mem.mp (List.mem_of_getElem? (wy_get h))
def nth (xs : List Nat) (i : Nat) : Nat := xs.getD i 0
/-- a way's goes; what comes less what leaves; what deeds come to -/
def net (r : Rows') (g : Nat → Int) (a : Nat) : Int := sm (wayL r).length fun p => g p * ((if a = (wy r p).2.2 then 1 else 0) - (if a = (wy r p).1 then 1 else 0))
def dsm (r : Rows') (g : Nat → Int) (k : Nat) : Int := sm (wayL r).length fun p => g p * (if k = (wy r p).2.1 then 1 else 0)
structure Mix (c : Cha) (rooms deeds : List Int) (so lo : List Nat) (free : Bool) (g wt : Nat → Int) (u : Int) : Prop where
  pos : 0 < u
  us : u.natAbs ≤ 2 ^ 1051
  gs : ∀ p, (g p).natAbs ≤ 2 ^ 1051
  ws : ∀ a, (wt a).natAbs ≤ 2 ^ 1051
  room : ∀ a, a < c.r.length → net c.r g a - wt a = u * en rooms a
  deed : ∀ k, k < c.n.length → k ∉ lo → dsm c.r g k = u * en deeds k
  deedL : ∀ k, k < c.n.length → dsm c.r g k ≤ u * en deeds k
  nnw : ∀ a, 0 ≤ wt a
  out : ∀ a, a ∉ so → wt a = 0
  one : sm c.r.length wt = u * (if 0 < so.length then 1 else 0)
  nng : free = false → ∀ p, 0 ≤ g p
structure Eff (c : Cha) (rooms deeds : List Int) (so lo : List Nat) (free : Bool) (es : List Int) (Y Z : Nat → Int) (z b : Int) : Prop where
  pos : 1 ≤ b
  len : es.length = c.n.length
  eff : ∀ k, k < c.n.length → b * en es k = - Z k
  way : ∀ a k d, way c.r a k d → Y d - Y a + Z k ≤ 0
  wayF : free = true → ∀ a k d, Mir.way c.r a k d → Y d - Y a + Z k = 0
  some' : ∀ a ∈ so, z ≤ Y a
  loose : ∀ k ∈ lo, Z k ≤ 0
  due : 0 < sm c.r.length (fun a => Y a * en rooms a) + sm c.n.length (fun k => Z k * en deeds k) + z * (if 0 < so.length then 1 else 0)
  ys : ∀ a, (Y a).natAbs ≤ 2 ^ 1050
  fy : ∀ a, ((Y a).natAbs : Int) ≤ 3 ^ (c.r.length + c.n.length + 1)
  fz : ∀ k, ((Z k).natAbs : Int) ≤ 3 ^ (c.r.length + c.n.length + 1)
section
variable {c : Cha} {rooms deeds : List Int} {so lo : List Nat} {free : Bool}
end
end Y
end Mir

/-! Mir: mixtures, walked. -/
namespace Mir
namespace Y
open PySem PySem.Spec PyProof.Rows L2 Mir
end Y
end Mir

/-! Mir: fractions added up by the laws. -/
namespace Mir
namespace Y
open PySem PySem.Spec PyProof.Rows L2 Mir
theorem law_common_eq {m : Mem} {a b : Int} (hb : b.natAbs < 2 ^ 8999) : m__law_common [.int a, .int b] m = .ok (.int ((Int.gcd a b : Nat) : Int)) m := by
  have key : Tri (m__law_common [.int a, .int b] m) (fun d m' => d = .int ((Int.gcd a b : Nat) : Int) ∧ m' = m) := by
    refine tri_fn rfl ?_
    have eab : ∀ x : Int, bAbs [.int x] m = .ok (.int (x.natAbs : Nat)) m := fun x => by
      show R.ok (D.int (if x < 0 then -x else x)) m = _
      congr 2
      split <;> omega
    simp [b__law_common, mPar, eab, b__law_common_s1]
    refine while_big (fun n η m' => m' = m ∧ ∃ F o : Nat, o ≤ n ∧ η = [some (.int (F : Nat)), some (.int (o : Nat))] ∧ Nat.gcd F o = Int.gcd a b) b.natAbs (Nat.lt_of_lt_of_le hb (Nat.pow_le_pow_right (by decide) (by decide))) ⟨rfl, a.natAbs, b.natAbs, Nat.le_refl _, rfl, rfl⟩ ?_
    rintro n η m' ⟨rfl, F, o, hon, rfl, hg⟩
    simp
    by_cases h0 : 0 < o
    · have em : gMod (.int (F : Nat)) (.int (o : Nat)) m' = .ok (.int ((F % o : Nat) : Int)) m' := gMod_nat h0 m'
      simp [h0, mPar, em]
      have hlt := Nat.mod_lt F h0
      refine ⟨o - 1, by omega, o, F % o, by omega, ⟨rfl, by simp⟩, ?_⟩
      rw [← hg, Nat.gcd_comm F o, Nat.gcd_rec o F, Nat.gcd_comm]
    · have h0' : o = 0 := by omega
      subst h0'
      rw [Nat.gcd_zero_right] at hg
      simp [b__law_common_s2, hg]
  obtain ⟨d, m', e, rfl, rfl⟩ := key.ex
  exact e
/-- fractions over one number -/
structure Ov (U : Int) (q : Rat) : Prop where
  ex : ∃ n : Int, q = Rat.divInt n U ∧ n.natAbs ≤ 2 ^ 2201
structure OkU (U : Int) : Prop where
  pos : 0 < U
  small : U.natAbs ≤ 2 ^ 2201
theorem pow_mul_le {a b : Nat} (h : b ≤ 1000) : b * 2 ^ a ≤ 2 ^ (a + 10) := by
  rw [Nat.pow_add, Nat.mul_comm]
  exact Nat.mul_le_mul_left _ (Nat.le_trans h (by decide))
end Y
end Mir

/-! Mir: what comes to rooms and what deeds come to, by the laws. -/
namespace Mir
namespace Y
open PySem PySem.Spec PyProof.Rows L2 Mir
open Sx (sm)
section
variable {m : Mem} {c : Cha} {U : Int} {g : Nat → Int} {P : D → Mem → Prop}
end
end Y
end Mir

/-! Mir: fractions and heaps looked at by the laws; goes that part. -/
namespace Mir
namespace Y
open PySem PySem.Spec PyProof.Rows L2 Mir
open Sx (sm)
section
variable {m : Mem} {c : Cha} {U : Int} {g : Nat → Int} {P : D → Mem → Prop}
/-- goes that part two rooms -/
structure GoP (r : Rows') (w : Nat) (U : Int) (g : Nat → Int) (one other : Nat) : Prop where
  ne : one ≠ other
  room : ∀ a, a < r.length → net r g a = U * ((if a = other then 1 else 0) - (if a = one then 1 else 0))
  deed : ∀ k, k < w → dsm r g k = 0
end
end Y
end Mir

/-! Mir: rooms parted, deeds barred, by the program. -/
namespace Mir
namespace Y
open PySem PySem.Spec PyProof.Rows L2 Mir
open Sx (sm)
section
variable {m : Mem} {c : Cha} {P : D → Mem → Prop}
/-- what a heap that parts is -/
structure Prt (r : Rows') (w : Nat) (x : Hea) (L : Nat → Int) (one other : Nat) : Prop where
  t : x.t.length = w
  l : x.l.length = w
  stn : Stn r x L
  s0 : 0 ≤ x.s
  t0 : ∀ v ∈ x.t, 0 ≤ v
  l0 : ∀ v ∈ x.l, 0 ≤ v
  ne : cntH x L one ≠ cntH x L other
  few : ∀ a, a < r.length → (cntH x L a).natAbs ≤ 2 ^ 1053
  fine : ∀ a, a < r.length → ((cntH x L a).natAbs : Int) ≤ 4 * 3 ^ (r.length + w + 1)
end
end Y
end Mir

/-! Mir: deeds barred. -/
namespace Mir
namespace Y
open PySem PySem.Spec PyProof.Rows L2 Mir
open Sx (sm)
section
variable {m : Mem} {c : Cha} {U : Int} {g wt : Nat → Int} {P : D → Mem → Prop}
/-- a heap that bars a deed at a room -/
structure Brd (r : Rows') (w : Nat) (x : Hea) (L : Nat → Int) (room k : Nat) : Prop where
  t : x.t.length = w
  l : x.l.length = w
  stn : Stn r x L
  s0 : 0 ≤ x.s
  t0 : ∀ v ∈ x.t, 0 ≤ v
  l0 : ∀ v ∈ x.l, 0 ≤ v
  lt : cntH x L room < tk x k
  few : ∀ a, a < r.length → (cntH x L a).natAbs ≤ 2 ^ 1053
  fine : ∀ a, a < r.length → ((cntH x L a).natAbs : Int) ≤ 4 * 3 ^ (r.length + w + 1)
/-- weights that are right, with goes -/
structure Wts (r : Rows') (U : Int) (g wt : Nat → Int) (begin' k : Nat) : Prop where
  nn : ∀ a, a < r.length → 0 ≤ wt a
  out : ∀ a, a < r.length → hasW r k a = false → wt a ≤ 0
  one : sm r.length wt = U
  room : ∀ a, a < r.length → net r g a = wt a - U * (if a = begin' then 1 else 0)
structure GoB (r : Rows') (w : Nat) (U : Int) (g wt : Nat → Int) (room k : Nat) : Prop where
  no : hasW r k room = false
  wts : Wts r U g wt room k
  deed : ∀ j, j < w → dsm r g j = 0
end
end Y
end Mir

/-! Mir: goes that bar, by the laws; rooms with deeds that have no way there. -/
namespace Mir
namespace Y
open PySem PySem.Spec PyProof.Rows L2 Mir
open Sx (sm)
section
variable {m : Mem} {c : Cha} {U : Int} {g wt : Nat → Int} {P : D → Mem → Prop}
end
end Y
end Mir

/-! Mir: small things that several laws draw. -/
namespace Mir
namespace Y
open PySem PySem.Spec PyProof.Rows L2 Mir
theorem ix4 {k a b c d : Nat} {m : Mem} (h : k < 4) : ∃ v : Nat, (v = a ∨ v = b ∨ v = c ∨ v = d) ∧ gIx (.lst [.int (a : Nat), .int (b : Nat), .int (c : Nat), .int (d : Nat)]) (.int (k : Nat)) m = .ok (.int (v : Nat)) m := by
  have : k = 0 ∨ k = 1 ∨ k = 2 ∨ k = 3 := by omega
  rcases this with rfl | rfl | rfl | rfl
  · exact ⟨a, .inl rfl, by simp⟩
  · exact ⟨b, .inr (.inl rfl), by simp⟩
  · exact ⟨c, .inr (.inr (.inl rfl)), by simp⟩
  · exact ⟨d, .inr (.inr (.inr rfl)), by simp⟩
theorem Nms.nodup {ns : List Str} (h : Nms ns) : ns.Nodup := by
  refine h.up.imp fun {a b} hab e => ?_
  subst e
  exact absurd hab (List.lt_irrefl _)
end Y
end Mir

/-! Mir: rows of deeds; steps told; rows shown. -/
namespace Mir
namespace Y
open PySem PySem.Spec PyProof.Rows L2 Mir
open Sx (sm)
theorem Pth.congr {r : Rows'} {w : Nat} (hwid : ∀ x ∈ r, x.length = w) {e e' : Nat → Int} (he : ∀ k, k < w → e k = e' k) {a : Nat} {s : Int} (p : Pth r e a s) : Pth r e' a s := by
  induction p with
  | zero => exact .zero
  | step _ hw ih =>
    rw [he _ (way_wid hwid hw).2]
    exact ih.step hw
theorem IsLow.congr {r : Rows'} {w : Nat} (hwid : ∀ x ∈ r, x.length = w) {e e' L : Nat → Int} (he : ∀ k, k < w → e k = e' k) (h : IsLow r e L) : IsLow r e' L :=
  ⟨h.z, fun a k b hw => by rw [← he _ (way_wid hwid hw).2]; exact h.w a k b hw, fun a ha => Pth.congr hwid he (h.p a ha)⟩
section
variable {m : Mem} {c : Cha} {P : D → Mem → Prop}
def gon (w : Nat) (ks : List Nat) : List Int := (List.range w).map fun j => ((ks.count j : Nat) : Int)
theorem en_gon {w j : Nat} {ks : List Nat} (h : j < w) : en (gon w ks) j = (ks.count j : Nat) := en_range h
/-- weights and goes that show a step -/
structure Stp' (r : Rows') (w : Nat) (U : Int) (g wt : Nat → Int) (k : Nat) (gone : List Int) : Prop where
  wts : Wts r U g wt 0 k
  nn : ∀ p, p < (wayL r).length → 0 ≤ g p
  deed : ∀ j, j < w → dsm r g j = U * en gone j
/-- a heap that bears and bars behind so many of each deed -/
structure Bhd (r : Rows') (w : Nat) (x : Hea) (k : Nat) (gone : List Int) : Prop where
  t : x.t.length = w
  l : x.l.length = w
  s0 : 0 ≤ x.s
  t0 : ∀ v ∈ x.t, 0 ≤ v
  l0 : ∀ v ∈ x.l, 0 ≤ v
  bears : Bears r x
  lt : x.s + sm w (fun j => en (effL x) j * en gone j) < tk x k
/-- steps as they are told -/
structure Ste where
  g : Nat → Int
  wt : Nat → Int
  U : Int
structure OkSte (r : Rows') (w : Nat) (s : Ste) (k : Nat) (gone : List Int) : Prop where
  u : OkU s.U
  gb : ∀ p, (s.g p).natAbs ≤ 2 ^ 1051
  wb : ∀ p, (s.wt p).natAbs ≤ 2 ^ 1051
  st : Stp' r w s.U s.g s.wt k gone
end
end Y
end Mir

/-! Mir: steps looked at by the laws. -/
namespace Mir
namespace Y
open PySem PySem.Spec PyProof.Rows L2 Mir
open Sx (sm)
section
variable {m : Mem} {c : Cha} {P : D → Mem → Prop} {ks : List Nat}
structure BdSte (s : Ste) : Prop where
  u : OkU s.U
  gb : ∀ p, (s.g p).natAbs ≤ 2 ^ 2209
  wb : ∀ p, (s.wt p).natAbs ≤ 2 ^ 2209
/-- all steps are right -/
def AllSt (c : Cha) (ks : List Nat) (ss : List Ste) : Prop := ∀ at' s, ss[at']? = some s → Stp' c.r c.n.length s.U s.g s.wt (nth ks at') (gon c.n.length (ks.take at'))
end
end Y
end Mir

/-! Mir: rows drawn; what is told of rows, its form. -/
namespace Mir
namespace Y
open PySem PySem.Spec PyProof.Rows L2 Mir
section
variable {m : Mem} {c : Cha} {P : D → Mem → Prop} {i : Nat}
end
end Y
end Mir

/-! Mir: goes looked at by the program. -/
namespace Mir
namespace Y
open PySem PySem.Spec PyProof.Rows L2 Mir
open Sx (sm)
section
variable {m : Mem} {c : Cha} {U : Int} {g wt : Nat → Int} {P : D → Mem → Prop}
end
end Y
end Mir

/-! Mir: goes, weights, steps, papers looked at by the program. -/
namespace Mir
namespace Y
open PySem PySem.Spec PyProof.Rows L2 Mir
open Sx (sm)
section
variable {m : Mem} {c : Cha} {U : Int} {g wt : Nat → Int} {P : D → Mem → Prop}
/-- weights alone -/
structure Wt0 (r : Rows') (U : Int) (wt : Nat → Int) (k : Nat) : Prop where
  nn : ∀ a, a < r.length → 0 ≤ wt a
  out : ∀ a, a < r.length → hasW r k a = false → wt a ≤ 0
  one : sm r.length wt = U
end
end Y
end Mir

/-! Mir: heaps that stand against goes: counts alike, enough; a yard's own heaps stand in its map. -/
namespace Mir
namespace Y
open PySem PySem.Spec PyProof.Rows L2 Mir
open Sx (sm)
/-! ### weak duality -/
theorem dual_sum {r : Rows'} {w : Nat} {e L g : Nat → Int} (ok : OkRows w r) (hL : IsLev r e L) : sm r.length (fun a => net r g a * L a) = sm w fun k => dsm r g k * e k := by
  have h1 : sm r.length (fun a => net r g a * L a) = sm (wayL r).length fun p => g p * (L (wy r p).2.2 - L (wy r p).1) := by
    unfold net
    rw [Sx.sm_congr (fun a _ => (Sx.sm_mulr (L a) _ (wayL r).length).symm), Sx.sm_comm (fun a p => g p * ((if a = (wy r p).2.2 then 1 else 0) - (if a = (wy r p).1 then 1 else 0)) * L a)]
    refine Sx.sm_congr fun p hp => ?_
    have hw := wy_way hp
    have h1 := (way_wid ok.wid hw).1
    have h2 := ok.rng _ _ _ hw
    rw [Sx.sm_congr (g := fun a => g p * ((if a = (wy r p).2.2 then 1 else 0) * L a - (if a = (wy r p).1 then 1 else 0) * L a)) (fun a _ => by rw [Int.mul_assoc, Int.sub_mul]), Sx.sm_mul, Sx.sm_sub, Sx.sm_at h2, Sx.sm_at h1, Int.one_mul, Int.one_mul]
  have h2 : (sm w fun k => dsm r g k * e k) = sm (wayL r).length fun p => g p * e (wy r p).2.1 := by
    unfold dsm
    rw [Sx.sm_congr (fun k _ => (Sx.sm_mulr (e k) _ (wayL r).length).symm), Sx.sm_comm (fun k p => g p * (if k = (wy r p).2.1 then 1 else 0) * e k)]
    refine Sx.sm_congr fun p hp => ?_
    have h3 := (way_wid ok.wid (wy_way hp)).2
    rw [Sx.sm_congr (g := fun k => g p * ((if k = (wy r p).2.1 then 1 else 0) * e k)) (fun a _ => by rw [Int.mul_assoc]), Sx.sm_mul, Sx.sm_at h3, Int.one_mul]
  rw [h1, h2]
  refine Sx.sm_congr fun p hp => ?_
  rw [hL.w _ _ _ (wy_way hp)]
  congr 1
  omega
theorem GoP.alike {r : Rows'} {w : Nat} {U : Int} {g : Nat → Int} {one other : Nat} {x : Hea} {L : Nat → Int} (ok : OkRows w r) (h : GoP r w U g one other) (hU : 0 < U) (h1 : one < r.length) (h2 : other < r.length) (st : Stn r x L) : cntH x L one = cntH x L other := by
  have h3 := dual_sum (g := g) ok st.lev
  rw [Sx.sm_zero' (n := w) (fun k hk => by rw [h.deed k hk, Int.zero_mul]), Sx.sm_congr (g := fun a => U * ((if a = other then 1 else 0) * L a - (if a = one then 1 else 0) * L a)) (fun a ha => by rw [h.room a ha, Int.mul_assoc, Int.sub_mul]), Sx.sm_mul, Sx.sm_sub, Sx.sm_at h2, Sx.sm_at h1] at h3
  have h4 : L other - L one = 0 := by
    rcases Int.mul_eq_zero.mp h3 with h | h <;> omega
  unfold cntH
  omega
theorem GoB.count {r : Rows'} {w : Nat} {U : Int} {g wt : Nat → Int} {room k : Nat} {x : Hea} {L : Nat → Int} (ok : OkRows w r) (h : GoB r w U g wt room k) (hr : room < r.length) (st : Stn r x L) : (sm r.length fun a => wt a * cntH x L a) = U * cntH x L room := by
  have h3 := dual_sum (g := g) ok st.lev
  rw [Sx.sm_zero' (n := w) (fun k hk => by rw [h.deed k hk, Int.zero_mul]), Sx.sm_congr (g := fun a => wt a * L a - U * ((if a = room then 1 else 0) * L a)) (fun a ha => by rw [h.wts.room a ha, Int.sub_mul, Int.mul_assoc]), Sx.sm_sub, Sx.sm_mul, Sx.sm_at hr, Int.one_mul] at h3
  unfold cntH
  rw [Sx.sm_congr (g := fun a => wt a * x.s + wt a * L a) (fun a _ => Int.mul_add _ _ _), Sx.sm_add, Sx.sm_mulr, h.wts.one, Int.mul_add]
  omega
theorem GoB.enough {r : Rows'} {w : Nat} {U : Int} {g wt : Nat → Int} {room k : Nat} {x : Hea} {L : Nat → Int} (ok : OkRows w r) (h : GoB r w U g wt room k) (hU : 0 < U) (hr : room < r.length) (st : Stn r x L) : tk x k ≤ cntH x L room := by
  have h1 := h.count ok hr st
  have h2 : 0 ≤ sm r.length fun a => wt a * (cntH x L a - tk x k) := Sx.sm_nonneg fun a ha => by
    have nn := h.wts.nn a ha
    cases hh : hasW r k a with
    | false =>
      have := h.wts.out a ha hh
      rw [show wt a = 0 by omega, Int.zero_mul]
      exact Int.le_refl _
    | true =>
      obtain ⟨b, hw⟩ := hasW_iff.mp hh
      exact Int.mul_nonneg nn (by have := st.en a k b hw; omega)
  rw [Sx.sm_congr (g := fun a => wt a * cntH x L a - wt a * tk x k) (fun a _ => Int.mul_sub _ _ _), Sx.sm_sub, Sx.sm_mulr, h1, h.wts.one, ← Int.mul_sub] at h2
  have := Int.nonneg_of_mul_nonneg_right h2 hU
  omega
/-! ### a yard's own heaps -/
structure Own (w : Nat) (r : Rows') : Prop where
  part : ∀ a b, a < r.length → b < r.length → a ≠ b → ∃ x L, Stn r x L ∧ cntH x L a ≠ cntH x L b
  bar : ∀ a k, a < r.length → k < w → hasW r k a = false → ∃ x L, Stn r x L ∧ cntH x L a < tk x k
theorem way_re' {w : Nat} {r : Rows'} (ok : OkRows w r) {ord : List Nat} (h : Ord r.length ord) {a k b : Nat} (hw : way (reR ord r) a k b) : way r (nth ord a) k (nth ord b) := by
  have ok' := ok.re h
  have hl : (reR ord r).length = ord.length := by unfold reR; simp
  have ha : a < ord.length := by rw [← hl]; exact (way_wid ok'.wid hw).1
  have hb : b < ord.length := by rw [← hl]; exact ok'.rng _ _ _ hw
  have ga : ord[a]? = some (nth ord a) := by unfold nth; rw [List.getD_eq_getElem?_getD, List.getElem?_eq_getElem ha]; rfl
  have gb : ord[b]? = some (nth ord b) := by unfold nth; rw [List.getD_eq_getElem?_getD, List.getElem?_eq_getElem hb]; rfl
  have hw' : way (reR ord r) (ord.idxOf (nth ord a)) k (ord.idxOf (nth ord b)) := by rw [h.idx ga, h.idx gb]; exact hw
  have := (way_re h (h.mem.mp (List.mem_of_getElem? gb))).mp hw'
  exact this.1 this.2
theorem nth_lt {ord : List Nat} {a : Nat} (ha : a < ord.length) : ord[a]? = some (nth ord a) := by unfold nth; rw [List.getD_eq_getElem?_getD, List.getElem?_eq_getElem ha]; rfl
theorem Stn.re {w : Nat} {r : Rows'} {x : Hea} {L : Nat → Int} (ok : OkRows w r) {ord : List Nat} (h : Ord r.length ord) (st : Stn r x L) : Stn (reR ord r) x fun a => L (nth ord a) := by
  have hl : (reR ord r).length = ord.length := by unfold reR; simp
  refine ⟨⟨?_, fun a k b hw => st.lev.w _ _ _ (way_re' ok h hw)⟩, fun a ha => ?_, fun a k b hw => st.en _ _ _ (way_re' ok h hw)⟩
  · have h0 := h.head
    have : nth ord 0 = 0 := by
      unfold nth
      rw [List.getD_eq_getElem?_getD, h0]; rfl
    show L (nth ord 0) = 0
    rw [this]
    exact st.lev.z
  · exact st.pos _ (h.mem.mp (List.mem_of_getElem? (nth_lt (by rw [← hl]; exact ha))))
theorem Own.re {w : Nat} {r : Rows'} (ok : OkRows w r) {ord : List Nat} (h : Ord r.length ord) (o : Own w r) : Own w (reR ord r) := by
  have hl : (reR ord r).length = ord.length := by unfold reR; simp
  refine ⟨fun a b ha hb hne => ?_, fun a k ha hk hno => ?_⟩
  · have ga := nth_lt (ord := ord) (a := a) (by omega)
    have gb := nth_lt (ord := ord) (a := b) (by omega)
    obtain ⟨x, L, st, h1⟩ := o.part (nth ord a) (nth ord b) (h.mem.mp (List.mem_of_getElem? ga)) (h.mem.mp (List.mem_of_getElem? gb)) (fun e => hne (by rw [← h.idx ga, ← h.idx gb, e]))
    exact ⟨x, _, st.re ok h, h1⟩
  · have ga := nth_lt (ord := ord) (a := a) (by omega)
    have hal := h.mem.mp (List.mem_of_getElem? ga)
    have hno' : hasW r k (nth ord a) = false := by
      cases hh : hasW r k (nth ord a) with
      | false => rfl
      | true =>
        obtain ⟨b, hw⟩ := hasW_iff.mp hh
        have hw' := (way_re h (ok.rng _ _ _ hw)).mpr ⟨fun _ => hw, hal⟩
        rw [h.idx ga] at hw'
        rw [hasW_iff.mpr ⟨_, hw'⟩] at hno
        cases hno
    obtain ⟨x, L, st, h1⟩ := o.bar (nth ord a) k hal hk hno'
    exact ⟨x, _, st.re ok h, h1⟩
/-! ### a yard's own heaps stand in its map -/
section
variable {hs : List Hea} {sts : List (List Int)} {rows : Rows'} {d : Nat}
theorem led_len {st : List Int} {k : Nat} (h : st.length = hs.length) : (ledL hs st k).length = hs.length := by unfold ledL; simp [h]
theorem led_at {st : List Int} {k i : Nat} {x : Hea} (h : st.length = hs.length) (hx : hs[i]? = some x) : (ledL hs st k).getD i 0 = st.getD i 0 - tk x k + lk x k := by
  have hi := (List.getElem?_eq_some_iff.mp hx).1
  unfold ledL
  rw [List.getD_eq_getElem?_getD, List.getElem?_map, List.getD_eq_getElem?_getD]
  have hz : (st.zip hs)[i]? = some (st[i], x) := List.getElem?_zip_eq_some.mpr ⟨List.getElem?_eq_getElem (by omega), hx⟩
  rw [hz, List.getElem?_eq_getElem (by omega : i < st.length)]
  rfl
theorem there_at {st : List Int} {k i : Nat} {x : Hea} (h : st.length = hs.length) (hx : hs[i]? = some x) (ht : thereB hs st k = true) : tk x k ≤ st.getD i 0 := by
  have hi := (List.getElem?_eq_some_iff.mp hx).1
  have hz : (st.zip hs)[i]? = some (st[i], x) := List.getElem?_zip_eq_some.mpr ⟨List.getElem?_eq_getElem (by omega), hx⟩
  unfold thereB at ht
  have := List.all_eq_true.mp ht _ (List.mem_of_getElem? hz)
  rw [List.getD_eq_getElem?_getD, List.getElem?_eq_getElem (by omega : i < st.length)]
  simpa using this
end
end Y
end Mir

/-! Mir: the laws' sums of fractions that are not in lowest terms. -/
namespace Mir
namespace Y
open PySem PySem.Spec PyProof.Rows L2 Mir
open Sx (sm)
end Y
end Mir

/-! Mir: woven. -/
namespace Mir
namespace Y
open PySem PySem.Spec PyProof.Rows L2 Mir
open Sx (sm)
/-- heaps as they are told -/
structure Told (r : Rows') (w : Nat) (x : Hea) (L : Nat → Int) : Prop where
  t : x.t.length = w
  l : x.l.length = w
  stn : Stn r x L
  s0 : 0 ≤ x.s
  t0 : ∀ v ∈ x.t, 0 ≤ v
  l0 : ∀ v ∈ x.l, 0 ≤ v
  few : ∀ a, a < r.length → (cntH x L a).natAbs ≤ 2 ^ 1053
  fine : ∀ a, a < r.length → ((cntH x L a).natAbs : Int) ≤ 4 * 3 ^ (r.length + w + 1)
theorem Prt.told {r : Rows'} {w : Nat} {x : Hea} {L : Nat → Int} {one other : Nat} (h : Prt r w x L one other) : Told r w x L := ⟨h.t, h.l, h.stn, h.s0, h.t0, h.l0, h.few, h.fine⟩
theorem Brd.told {r : Rows'} {w : Nat} {x : Hea} {L : Nat → Int} {room k : Nat} (h : Brd r w x L room k) : Told r w x L := ⟨h.t, h.l, h.stn, h.s0, h.t0, h.l0, h.few, h.fine⟩
/-- levels of a heap that stands, picked -/
noncomputable def levOf (r : Rows') (x : Hea) : Nat → Int := by
  classical
  exact if h : ∃ L, Stn r x L then h.choose else fun _ => 0
theorem levOf_stn {r : Rows'} {x : Hea} (h : Stands r x) : Stn r x (levOf r x) := by
  unfold levOf
  rw [dif_pos (show ∃ L, Stn r x L from h)]
  exact (show ∃ L, Stn r x L from h).choose_spec
section
variable {m : Mem} {c : Cha} {x : Hea} {P : D → Mem → Prop}
end
section
variable {m : Mem} {c : Cha} {P : D → Mem → Prop}
/-- heaps told for a map: those of pairs, those of deeds -/
structure Wov (r : Rows') (w : Nat) (xs : List Hea) : Prop where
  told : ∀ x ∈ xs, ∃ L, Told r w x L
  few : xs.length ≤ r.length * r.length + r.length * w
theorem Wov.st {r : Rows'} {w : Nat} {xs : List Hea} (h : Wov r w xs) {x : Hea} (hx : x ∈ xs) : Stands r x := by
  obtain ⟨L, hL⟩ := h.told x hx
  exact ⟨L, hL.stn⟩
def ParL (r : Rows') (xs : List Hea) (a b : Nat) : Prop := ∃ x ∈ xs, cntH x (levOf r x) a ≠ cntH x (levOf r x) b
def BarL (r : Rows') (xs : List Hea) (a k : Nat) : Prop := ∃ x ∈ xs, cntH x (levOf r x) a < tk x k
end
end Y
end Mir

/-! Mir: fractions otherwise, papers looked at. -/
namespace Mir
namespace Y
open PySem PySem.Spec PyProof.Rows L2 Mir
open Sx (sm)
/-- numbers over one number, bounded -/
structure FrB (B : Nat) (U : Int) (g : Nat → Int) : Prop where
  pos : 0 < U
  us : U.natAbs ≤ B
  gs : ∀ p, (g p).natAbs ≤ B
theorem six {k : Nat} {pk : Int} (h : (k : Int) < pk) (h6 : pk ≤ 6) : k = 0 ∨ k = 1 ∨ k = 2 ∨ k = 3 ∨ k = 4 ∨ k = 5 := by omega
theorem FrB.mono {B C : Nat} {U : Int} {g : Nat → Int} (h : FrB B U g) (hBC : B ≤ C) : FrB C U g := ⟨h.pos, Nat.le_trans h.us hBC, fun p => Nat.le_trans (h.gs p) hBC⟩
end Y
end Mir

/-! Mir: papers looked at. -/
namespace Mir
namespace Y
open PySem PySem.Spec PyProof.Rows L2 Mir
open Sx (sm)
theorem sm_bd {f : Nat → Int} {n k : Nat} {B : Nat} (h : ∀ i, (f i).natAbs ≤ B) (hn : n ≤ k) : (sm n f).natAbs ≤ k * B := by
  have h1 := Sx.sm_abs f n
  have h2 : sm n (fun i => ((f i).natAbs : Int)) ≤ sm n (fun _ => (B : Int)) := Sx.sm_le fun i _ => by have := h i; omega
  rw [Sx.sm_const] at h2
  have h3 : (n : Int) * (B : Int) = ((n * B : Nat) : Int) := by simp
  rw [h3] at h2
  have h4 : n * B ≤ k * B := Nat.mul_le_mul_right B hn
  omega
theorem GoB.us {r : Rows'} {w : Nat} {U : Int} {g wt : Nat → Int} {room k : Nat} (h : GoB r w U g wt room k) (hn : r.length ≤ 12) (hw : ∀ p, (wt p).natAbs ≤ 2 ^ 1051) : U.natAbs ≤ 2 ^ 1061 := by
  rw [← h.wts.one]
  refine Nat.le_trans (sm_bd hw hn) ?_
  exact pow_mul_le (by decide)
theorem GoP.us {r : Rows'} {w : Nat} {U : Int} {g : Nat → Int} {one other : Nat} (h : GoP r w U g one other) (h2 : other < r.length) (hw : (wayL r).length ≤ 144) (hg : ∀ p, (g p).natAbs ≤ 2 ^ 1051) : U.natAbs ≤ 2 ^ 1061 := by
  have h1 := h.room other h2
  rw [if_pos rfl, if_neg (fun e => h.ne e.symm), Int.sub_zero, Int.mul_one] at h1
  rw [← h1]
  unfold net
  refine Nat.le_trans (sm_bd (B := 2 ^ 1051) (fun i => ?_) hw) (pow_mul_le (by decide))
  rw [Int.natAbs_mul]
  refine Nat.le_trans (Nat.mul_le_mul (hg i) (show _ ≤ 1 by split <;> split <;> decide)) ?_
  rw [Nat.mul_one]
  exact Nat.le_refl _
inductive Pap where
  | alike (one other : Int) (g : Nat → Int) (U : Int)
  | opn (room : Int) (deed : Str) (wt g : Nat → Int) (U : Int)
section
variable {m : Mem} {c : Cha} {P : D → Mem → Prop}
end
end Y
end Mir

/-! Mir: steps looked at by the program. -/
namespace Mir
namespace Y
open PySem PySem.Spec PyProof.Rows L2 Mir
open Sx (sm)
section
variable {m : Mem} {c : Cha} {P : D → Mem → Prop} {ks : List Nat}
end
end Y
end Mir

/-! Mir: comprehensions over any source. -/
namespace Mir
namespace Y
open PySem PySem.Spec PyProof.Rows L2 Mir
end Y
end Mir

namespace Mir
namespace Y
open PySem PySem.Spec PyProof.Rows L2
open Sx (sm)
/-! ### rows that a heap does -/
/-- the count of a heap behind a row -/
def cntR (w : Nat) (x : Hea) (ks : List Nat) : Int := x.s + sm w fun j => en (effL x) j * en (gon w ks) j
/-- a heap does a row -/
def DoneR (w : Nat) (x : Hea) (ks : List Nat) : Prop := ∀ t, t < ks.length → tk x (nth ks t) ≤ cntR w x (ks.take t)
theorem cntR_nil (w : Nat) (x : Hea) : cntR w x [] = x.s := by
  unfold cntR
  rw [Sx.sm_zero' (fun j hj => by rw [en_gon hj]; simp)]
  omega
theorem cntR_snoc {w k : Nat} {x : Hea} (ht : x.t.length = w) (hl : x.l.length = w) (hk : k < w) (ks : List Nat) : cntR w x (ks ++ [k]) = cntR w x ks - tk x k + lk x k := by
  unfold cntR
  have e : (sm w fun j => en (effL x) j * en (gon w (ks ++ [k])) j) = (sm w fun j => en (effL x) j * en (gon w ks) j) + sm w fun j => (if j = k then 1 else 0) * en (effL x) j := by
    rw [← Sx.sm_add]
    refine Sx.sm_congr fun j hj => ?_
    rw [en_gon hj, en_gon hj, List.count_append, List.count_singleton]
    by_cases h : j = k
    · subst h
      simp
      rw [Int.mul_add]
      omega
    · have : (k == j) = false := by simpa using fun e => h e.symm
      simp [h, this]
  have e2 : en (effL x) k = lk x k - tk x k := effL_at ht hl hk
  rw [e, Sx.sm_at hk, e2]
  omega
/-- weak duality for heaps that bear -/
theorem dual_le {r : Rows'} {w : Nat} {e L g : Nat → Int} (ok : OkRows w r) (hL : IsLow r e L) (hg : ∀ p, p < (wayL r).length → 0 ≤ g p) : sm r.length (fun a => net r g a * L a) ≤ sm w fun k => dsm r g k * e k := by
  have h1 : sm r.length (fun a => net r g a * L a) = sm (wayL r).length fun p => g p * (L (wy r p).2.2 - L (wy r p).1) := by
    unfold net
    rw [Sx.sm_congr (fun a _ => (Sx.sm_mulr (L a) _ (wayL r).length).symm), Sx.sm_comm (fun a p => g p * ((if a = (wy r p).2.2 then 1 else 0) - (if a = (wy r p).1 then 1 else 0)) * L a)]
    refine Sx.sm_congr fun p hp => ?_
    have hw := wy_way hp
    have h1 := (way_wid ok.wid hw).1
    have h2 := ok.rng _ _ _ hw
    rw [Sx.sm_congr (g := fun a => g p * ((if a = (wy r p).2.2 then 1 else 0) * L a - (if a = (wy r p).1 then 1 else 0) * L a)) (fun a _ => by rw [Int.mul_assoc, Int.sub_mul]), Sx.sm_mul, Sx.sm_sub, Sx.sm_at h2, Sx.sm_at h1, Int.one_mul, Int.one_mul]
  have h2 : (sm w fun k => dsm r g k * e k) = sm (wayL r).length fun p => g p * e (wy r p).2.1 := by
    unfold dsm
    rw [Sx.sm_congr (fun k _ => (Sx.sm_mulr (e k) _ (wayL r).length).symm), Sx.sm_comm (fun k p => g p * (if k = (wy r p).2.1 then 1 else 0) * e k)]
    refine Sx.sm_congr fun p hp => ?_
    have h3 := (way_wid ok.wid (wy_way hp)).2
    rw [Sx.sm_congr (g := fun k => g p * ((if k = (wy r p).2.1 then 1 else 0) * e k)) (fun a _ => by rw [Int.mul_assoc]), Sx.sm_mul, Sx.sm_at h3, Int.one_mul]
  rw [h1, h2]
  refine Sx.sm_le fun p hp => ?_
  have := hL.w _ _ _ (wy_way hp)
  exact Int.mul_le_mul_of_nonneg_left (by omega) (hg p hp)
/-- a step that is shown: each heap that bears has what the deed takes -/
theorem Stp'.enough {r : Rows'} {w : Nat} {U : Int} {g wt : Nat → Int} {k : Nat} {ks : List Nat} {x : Hea} (ok : OkRows w r) (h : Stp' r w U g wt k (gon w ks)) (hU : 0 < U) (hb : Bears r x) : tk x k ≤ cntR w x ks := by
  obtain ⟨L, hL, hen⟩ := hb
  have h0 : 0 < r.length := ok.pos
  have h3 := dual_le (g := g) ok hL h.nn
  have e1 : (sm w fun k => dsm r g k * eAt (effL x) k) = U * sm w fun j => en (effL x) j * en (gon w ks) j := by
    rw [← Sx.sm_mul]
    refine Sx.sm_congr fun j hj => ?_
    rw [h.deed j hj, Int.mul_assoc, Int.mul_comm (en (gon w ks) j)]
    rfl
  rw [e1, Sx.sm_congr (g := fun a => wt a * L a - U * ((if a = 0 then 1 else 0) * L a)) (fun a ha => by rw [h.wts.room a ha, Int.sub_mul, Int.mul_assoc]), Sx.sm_sub, Sx.sm_mul, Sx.sm_at h0, Int.one_mul, hL.z] at h3
  have h2 : 0 ≤ sm r.length fun a => wt a * (x.s + L a - tk x k) := Sx.sm_nonneg fun a ha => by
    have nn := h.wts.nn a ha
    cases hh : hasW r k a with
    | false =>
      have := h.wts.out a ha hh
      rw [show wt a = 0 by omega, Int.zero_mul]
      exact Int.le_refl _
    | true =>
      obtain ⟨b, hw⟩ := hasW_iff.mp hh
      exact Int.mul_nonneg nn (by have := hen a k b hw; simp only at this; omega)
  have e2 : (sm r.length fun a => wt a * (x.s + L a - tk x k)) = (sm r.length fun a => wt a * L a) + U * (x.s - tk x k) := by
    rw [Sx.sm_congr (g := fun a => wt a * L a + wt a * (x.s - tk x k)) (fun a _ => by rw [← Int.mul_add]; congr 1; omega), Sx.sm_add, Sx.sm_mulr, h.wts.one]
  rw [e2] at h2
  have h4 : 0 ≤ U * (cntR w x ks - tk x k) := by
    unfold cntR
    rw [show x.s + (sm w fun j => en (effL x) j * en (gon w ks) j) - tk x k = (sm w fun j => en (effL x) j * en (gon w ks) j) + (x.s - tk x k) by omega, Int.mul_add]
    omega
  have := Int.nonneg_of_mul_nonneg_right h4 hU
  omega
/-- a row of a map leads to a room -/
inductive Pat (r : Rows') : List Nat → Nat → Prop
  | nil : Pat r [] 0
  | snoc {ks : List Nat} {a k b : Nat} : Pat r ks a → way r a k b → Pat r (ks ++ [k]) b
theorem Pat.deeds {r : Rows'} {w : Nat} (ok : OkRows w r) {ks : List Nat} {a : Nat} (h : Pat r ks a) : a < r.length ∧ ∀ k ∈ ks, k < w := by
  induction h with
  | nil => exact ⟨ok.pos, by simp⟩
  | snoc _ hw ih =>
    refine ⟨ok.rng _ _ _ hw, fun k hk => ?_⟩
    rcases List.mem_append.mp hk with h | h
    · exact ih.2 k h
    · rw [List.mem_singleton.mp h]; exact (way_wid ok.wid hw).2
theorem nth_app {ks : List Nat} {k t : Nat} (h : t < ks.length) : nth (ks ++ [k]) t = nth ks t := by
  unfold nth
  rw [List.getD_eq_getElem?_getD, List.getD_eq_getElem?_getD, List.getElem?_append_left h]
theorem nth_end {ks : List Nat} {k : Nat} : nth (ks ++ [k]) ks.length = k := by
  unfold nth
  rw [List.getD_eq_getElem?_getD]
  simp
theorem done_snoc {w k : Nat} {x : Hea} {ks : List Nat} (h : DoneR w x ks) (h2 : tk x k ≤ cntR w x ks) : DoneR w x (ks ++ [k]) := fun t ht => by
  rw [List.length_append, List.length_singleton] at ht
  by_cases q : t < ks.length
  · rw [nth_app q, List.take_append_of_le_length (by omega)]
    exact h t q
  · rw [show t = ks.length by omega, nth_end, List.take_append_of_le_length (Nat.le_refl _), List.take_length]
    exact h2
theorem Pat.done {r : Rows'} {w : Nat} {x : Hea} (ok : OkRows w r) (ht : x.t.length = w) (hl : x.l.length = w) (hb : Bears r x) {ks : List Nat} {a : Nat} (h : Pat r ks a) : DoneR w x ks := by
  obtain ⟨L, hL, hen⟩ := hb
  have key : x.s + L a ≤ cntR w x ks ∧ DoneR w x ks := by
    induction h with
    | nil => exact ⟨by rw [cntR_nil, hL.z]; omega, fun t h => by cases h⟩
    | @snoc ks a k b _ hw ih =>
      have hk := (way_wid ok.wid hw).2
      have h1 := hL.w _ _ _ hw
      have h2 := hen _ _ _ hw
      rw [effL_at ht hl hk] at h1
      simp only at h2
      refine ⟨by rw [cntR_snoc ht hl hk]; omega, done_snoc ih.2 (by omega)⟩
  exact key.2
theorem AllSt.done {c : Cha} {ks : List Nat} {ss : List Ste} {x : Hea} (ok : OkRows c.n.length c.r) (h : AllSt c ks ss) (hU : ∀ s ∈ ss, 0 < s.U) (hl : ss.length = ks.length) (hb : Bears c.r x) : DoneR c.n.length x ks := fun t ht => by
  have hs := List.getElem?_eq_getElem (l := ss) (i := t) (by omega)
  exact (h t _ hs).enough ok (hU _ (List.mem_of_getElem? hs)) hb
end Y
end Mir

namespace Mir
namespace Y
open PySem PySem.Spec PyProof.Rows L2
open Sx (sm)
/-! ### a map with a way more -/
def ins (g : Nat → Int) (n : Nat) : Nat → Int := fun p => if p < n then g p else if p = n then 0 else g (p - 1)
section
variable {r : Rows'} {w a0 k0 b0 : Nat}
/-- a way more: where it lies, and that goes with a nought there come to the same -/
structure Wdr (r r' : Rows') (w n : Nat) : Prop where
  len : r'.length = r.length
  lw : (wayL r').length = (wayL r).length + 1
  hn : n ≤ (wayL r).length
  ok : OkRows w r'
  up : ∀ a k b, way r a k b → way r' a k b
  no : ∀ a k, hasW r' k a = false → hasW r k a = false
  net : ∀ g a, Y.net r' (ins g n) a = Y.net r g a
  dsm : ∀ g k, Y.dsm r' (ins g n) k = Y.dsm r g k
end
section
variable {r r' : Rows'} {w n : Nat} {U : Int} {g wt : Nat → Int}
end
end Y
end Mir

/-! Mir: the walk of a yard, to the sign. -/
namespace Mir
namespace Y
open PySem PySem.Spec PyProof.Rows L2 Mir
/-! ### the walk -/
def stepS (hs : List Hea) (st : List Int) (sts : List (List Int)) (k : Nat) : List (List Int) × Option Nat :=
  if thereB hs st k = true then (if ledL hs st k ∈ sts then (sts, some (sts.idxOf (ledL hs st k))) else (sts ++ [ledL hs st k], some sts.length)) else (sts, none)
def rowS (hs : List Hea) (st : List Int) : List Nat → List (List Int) → List (List Int) × List (Option Nat)
  | [], sts => (sts, [])
  | k :: ks, sts => ((rowS hs st ks (stepS hs st sts k).1).1, (stepS hs st sts k).2 :: (rowS hs st ks (stepS hs st sts k).1).2)
def stA (sts : List (List Int)) (a : Nat) : List Int := sts.getD a []
def walkS (hs : List Hea) (w most : Nat) : Nat → List (List Int) → Rows' → List (List Int) × Rows'
  | 0, sts, rows => (sts, rows)
  | f + 1, sts, rows => if rows.length < sts.length ∧ sts.length ≤ most then walkS hs w most f (rowS hs (stA sts rows.length) (List.range w) sts).1 (rows ++ [(rowS hs (stA sts rows.length) (List.range w) sts).2]) else (sts, rows)
/-- the walk of a yard, up to so many stands -/
def walkY (y : Yar) (most : Nat) : List (List Int) × Rows' := walkS y.h y.d.length most most [y.h.map Hea.s] []
/-- rows in cells of their own -/
def RowC (m : Mem) (rs : List D) (rows : Rows') : Prop := rs.length = rows.length ∧ ∀ (a : Nat) x, rows[a]? = some x → ∃ q, rs[a]? = some (.ref q) ∧ m[q]? = some (.lst (x.map oD))
theorem RowC.kp {m m' : Mem} {rs : List D} {rows : Rows'} (h : RowC m rs rows) (k : Kp m m') : RowC m' rs rows := ⟨h.1, fun a x e => by
  obtain ⟨q, h1, h2⟩ := h.2 a x e
  exact ⟨q, h1, k.get h2⟩⟩
theorem RowC.app {m : Mem} {rs : List D} {rows : Rows'} {x : List (Option Nat)} {q : Nat} (h : RowC m rs rows) (hq : m[q]? = some (.lst (x.map oD))) : RowC m (rs ++ [.ref q]) (rows ++ [x]) := by
  refine ⟨by simp [h.1], fun a z e => ?_⟩
  by_cases ha : a < rows.length
  · rw [List.getElem?_append_left ha] at e
    obtain ⟨q', h1, h2⟩ := h.2 a z e
    exact ⟨q', by rw [List.getElem?_append_left (by rw [h.1]; exact ha)]; exact h1, h2⟩
  · have hl := (List.getElem?_eq_some_iff.mp e).1
    simp at hl
    have : a = rows.length := by omega
    subst this
    simp at e
    subst e
    exact ⟨q, by rw [← h.1]; simp, hq⟩
theorem stepS_len (hs : List Hea) (st : List Int) (sts : List (List Int)) (k : Nat) : (stepS hs st sts k).1.length ≤ sts.length + 1 := by
  unfold stepS
  split
  · split <;> simp
  · simp
theorem rowS_len (hs : List Hea) (st : List Int) : ∀ (ks : List Nat) (sts : List (List Int)), (rowS hs st ks sts).1.length ≤ sts.length + ks.length ∧ (rowS hs st ks sts).2.length = ks.length
  | [], sts => ⟨by simp [rowS], rfl⟩
  | k :: ks, sts => by
    have h1 := stepS_len hs st sts k
    have h2 := rowS_len hs st ks (stepS hs st sts k).1
    unfold rowS
    refine ⟨?_, by simp [h2.2]⟩
    simp only [List.length_cons]
    omega
end Y
end Mir

/-! Mir: the map of a walk; rooms as they come up; maps laid on one another. -/
namespace Mir
namespace Y
open PySem PySem.Spec PyProof.Rows L2 Mir
/-! ### rooms as they come up -/
end Y
end Mir

/-! Mir: rooms as they come up, numbered, laid. -/
namespace Mir
namespace Y
open PySem PySem.Spec PyProof.Rows L2 Mir
/-! ### the plain thing -/
/-! ### two maps alike -/
/-- rooms of one map at rooms of another one: all ways lead alike -/
structure Iso (r r' : Rows') (f : Nat → Nat) : Prop where
  len : r.length = r'.length
  zero : f 0 = 0
  lt : ∀ a, a < r.length → f a < r'.length
  inj : ∀ a b, a < r.length → b < r.length → f a = f b → a = b
  row : ∀ a, a < r.length → rAt r' (f a) = (rAt r a).map (Option.map f)
end Y
end Mir

/-! Mir: come_to, numbered, laid. -/
namespace Mir
namespace Y
open PySem PySem.Spec PyProof.Rows L2 Mir
/-- a map whose rooms all are come to from the first one; a deed may lead nowhere -/
structure ComR (w : Nat) (r : Rows') : Prop where
  pos : 0 < r.length
  wid : ∀ x ∈ r, x.length = w
  rng : ∀ a k b, way r a k b → b < r.length
end Y
end Mir

/-! Mir: things with texts compared; laid; does. -/
namespace Mir
namespace Y
open PySem PySem.Spec PyProof.Rows L2 Mir
/-- some things are told apart by == -/
structure EncP {α : Type} [DecidableEq α] (f : α → D) (k : Nat) (S : α → Prop) : Prop where
  ex : ∃ p : α → PyData, (∀ m n x, S x → toP m (n + k) (f x) = some (p x)) ∧ ∀ x y, S x → S y → PyData.eqv (p x) (p y) = decide (x = y)
theorem Enc.p {α : Type} [DecidableEq α] {f : α → D} {k : Nat} (h : Enc f k) : EncP f k fun _ => True := by
  obtain ⟨p, h1, h2⟩ := h.ex
  exact ⟨p, fun m n x _ => h1 m n x, fun x y _ _ => h2 x y⟩
theorem eqvAll_mapP {α : Type} [DecidableEq α] {p : α → PyData} {S : α → Prop} (h : ∀ x y, S x → S y → PyData.eqv (p x) (p y) = decide (x = y)) : ∀ xs ys : List α, (∀ x ∈ xs, S x) → (∀ y ∈ ys, S y) → PyData.eqvAll (xs.map p) (ys.map p) = decide (xs = ys)
  | [], [], _, _ => rfl
  | [], y :: ys, _, _ => by simp [PyData.eqvAll]
  | x :: xs, [], _, _ => by simp [PyData.eqvAll]
  | x :: xs, y :: ys, hx, hy => by
    show (PyData.eqv (p x) (p y) && PyData.eqvAll (xs.map p) (ys.map p)) = _
    rw [h x y (hx x List.mem_cons_self) (hy y List.mem_cons_self), eqvAll_mapP h xs ys (fun z hz => hx z (List.mem_cons_of_mem _ hz)) (fun z hz => hy z (List.mem_cons_of_mem _ hz)), Bool.eq_iff_iff]
    simp
theorem toPs_mapP {α : Type} {f : α → D} {p : α → PyData} {S : α → Prop} {m : Mem} {n : Nat} (h : ∀ x, S x → toP m n (f x) = some (p x)) : ∀ xs : List α, (∀ x ∈ xs, S x) → mapO (toP m n) (xs.map f) = some (xs.map p)
  | [], _ => rfl
  | x :: xs, hx => by
    rw [List.map_cons, List.map_cons]
    unfold mapO
    rw [h x (hx x List.mem_cons_self), toPs_mapP h xs fun z hz => hx z (List.mem_cons_of_mem _ hz)]
theorem EncP.tup {α : Type} [DecidableEq α] {f : α → D} {k : Nat} {S : α → Prop} (h : EncP f k S) : EncP (fun xs : List α => .tup (xs.map f)) (k + 1) (fun xs => ∀ x ∈ xs, S x) := by
  obtain ⟨p, h1, h2⟩ := h.ex
  exact ⟨fun xs => .tuple (xs.map p), fun m n xs hx => by
    show (mapO (toP m (n + k)) (xs.map f)).map _ = _
    rw [toPs_mapP (h1 m n) xs hx]; rfl, fun xs ys hx hy => eqvAll_mapP h2 xs ys hx hy⟩
theorem EncP.lst {α : Type} [DecidableEq α] {f : α → D} {k : Nat} {S : α → Prop} (h : EncP f k S) : EncP (fun xs : List α => .lst (xs.map f)) (k + 1) (fun xs => ∀ x ∈ xs, S x) := by
  obtain ⟨p, h1, h2⟩ := h.ex
  exact ⟨fun xs => .list (xs.map p), fun m n xs hx => by
    show (mapO (toP m (n + k)) (xs.map f)).map _ = _
    rw [toPs_mapP (h1 m n) xs hx]; rfl, fun xs ys hx hy => eqvAll_mapP h2 xs ys hx hy⟩
theorem EncP.up {α : Type} [DecidableEq α] {f : α → D} {k j : Nat} {S : α → Prop} (h : EncP f k S) (hj : k ≤ j) : EncP f j S := by
  obtain ⟨p, h1, h2⟩ := h.ex
  exact ⟨p, fun m n x hx => by rw [show n + j = (n + (j - k)) + k by omega]; exact h1 m _ x hx, h2⟩
theorem EncP.of {α β : Type} [DecidableEq α] [DecidableEq β] {f : α → D} {k : Nat} {S : α → Prop} (h : EncP f k S) (g : β → α) (hg : ∀ x y, g x = g y → x = y) : EncP (fun x => f (g x)) k (fun x => S (g x)) := by
  obtain ⟨p, h1, h2⟩ := h.ex
  exact ⟨fun x => p (g x), fun m n x hx => h1 m n _ hx, fun x y hx hy => by
    rw [h2 _ _ hx hy, Bool.eq_iff_iff]
    simp
    exact ⟨hg x y, fun e => by rw [e]⟩⟩
theorem EncP.eq {α : Type} [DecidableEq α] {f : α → D} {k : Nat} {S : α → Prop} (h : EncP f k S) (hk : k ≤ 60) {x y : α} (hx : S x) (hy : S y) (hf : flatD (f x) = none) (neg : Bool) (m : Mem) : gEq neg (f x) (f y) m = .ok (.bl (decide (x = y) ^^ neg)) m := by
  obtain ⟨p, h1, h2⟩ := h.ex
  have e1 := fun x hx => h1 m (60 - k) x hx
  rw [show 60 - k + k = 60 by omega] at e1
  unfold gEq
  rw [hf]
  simp only
  unfold eqDeep
  rw [e1 x hx, e1 y hy]
  simp only [h2 x y hx hy]
def GoodS (xs : List Str) : Prop := ∀ x ∈ xs, PyData.strOk x = true
theorem Nm.good {x : Str} (h : Nm x) : PyData.strOk x = true := by
  rw [← S_of x]
  exact strOk_S fun c hc => by
    have := (letL_mem c).mp (h.let' c hc)
    omega
theorem Nms.good {xs : List Str} (h : Nms xs) : GoodS xs := fun x hx => Nm.good (h.nm x hx)
instance : DecidableEq Cha := fun a b => by
  obtain ⟨n, r⟩ := a
  obtain ⟨n', r'⟩ := b
  by_cases h : n = n' ∧ r = r'
  · exact isTrue (by rw [h.1, h.2])
  · exact isFalse fun e => h (by injection e with e1 e2; exact ⟨e1, e2⟩)
section
variable {m : Mem} {P : D → Mem → Prop}
end
end Y
end Mir

/-! Mir: what a walk is; a yard that does a map. -/
namespace Mir
namespace Y
open PySem PySem.Spec PyProof.Rows L2 Mir
variable {hs : List Hea} {st0 : List Int}
theorem rowS_wk {st : List Int} {rows : Rows'} : ∀ (n : Nat) {sts : List (List Int)} {x : List (Option Nat)}, Wk hs st0 sts (rows ++ [x]) → sts[rows.length]? = some st →
    Wk hs st0 (rowS hs st (List.range' x.length n) sts).1 (rows ++ [x ++ (rowS hs st (List.range' x.length n) sts).2]) ∧ ∃ t, (rowS hs st (List.range' x.length n) sts).1 = sts ++ t
  | 0, sts, x, w, hst => by simpa [rowS] using w
  | n + 1, sts, x, w, hst => by
    rw [List.range'_succ]
    have key : ∃ t, (stepS hs st sts x.length).1 = sts ++ t ∧ Wk hs st0 (sts ++ t) (rows ++ [x ++ [(stepS hs st sts x.length).2]]) := by
      unfold stepS
      cases hth : thereB hs st x.length with
      | false =>
        refine ⟨[], by simp, ?_⟩
        have := w.mono (extra := []) (o := none) hst (fun _ => hth) (fun b e => by cases e) (by simpa using w.nd) (fun b h1 h2 => by simp at h2; omega)
        simpa using this
      | true =>
        by_cases hin : ledL hs st x.length ∈ sts
        · refine ⟨[], by simp [hin], ?_⟩
          have := w.mono (extra := []) (o := some (sts.idxOf (ledL hs st x.length))) hst (fun e => by cases e) (fun b e => by
            cases e
            refine ⟨hth, ?_⟩
            rw [List.append_nil, List.getElem?_eq_getElem (List.idxOf_lt_length_iff.mpr hin), List.getElem_idxOf]) (by simpa using w.nd) (fun b h1 h2 => by simp at h2; omega)
          simpa [hin] using this
        · refine ⟨[ledL hs st x.length], by simp [hin], ?_⟩
          have hnd : (sts ++ [ledL hs st x.length]).Nodup := by
            rw [List.nodup_append]
            refine ⟨w.nd, by simp, fun a ha c hc => ?_⟩
            have : c = ledL hs st x.length := by simpa using hc
            rw [this]
            exact fun e => hin (e ▸ ha)
          have := w.mono (extra := [ledL hs st x.length]) (o := some sts.length) hst (fun e => by cases e) (fun b e => by
            cases e
            exact ⟨hth, by simp⟩) hnd (fun b h1 h2 => by simp at h2; congr 1; omega)
          simpa [hin] using this
    obtain ⟨t, h1, h2⟩ := key
    have hst2 : (sts ++ t)[rows.length]? = some st := by rw [List.getElem?_append_left (List.getElem?_eq_some_iff.mp hst).1]; exact hst
    obtain ⟨k1, u, k2⟩ := rowS_wk n h2 hst2
    rw [List.length_append, List.length_singleton] at k1 k2
    unfold rowS
    rw [h1]
    exact ⟨by simpa using k1, t ++ u, by rw [k2, List.append_assoc]⟩
theorem rowS_wk0 {st : List Int} {rows : Rows'} {sts : List (List Int)} (w : Nat) (h : Wk hs st0 sts rows) (hst : sts[rows.length]? = some st) :
    Wk hs st0 (rowS hs st (List.range w) sts).1 (rows ++ [(rowS hs st (List.range w) sts).2]) ∧ ∃ t, (rowS hs st (List.range w) sts).1 = sts ++ t := by
  have := rowS_wk w h.nil hst
  rw [List.length_nil, ← List.range_eq_range'] at this
  simpa using this
/-- what is true of a walk at its end -/
structure WkE (hs : List Hea) (st0 : List Int) (w most : Nat) (sts : List (List Int)) (rows : Rows') : Prop where
  wk : Wk hs st0 sts rows
  le : rows.length ≤ sts.length
  wid : ∀ x ∈ rows, x.length = w
  fin : sts.length ≤ most → rows.length = sts.length
theorem walkS_wk {w most : Nat} : ∀ (f : Nat) {sts : List (List Int)} {rows : Rows'}, Wk hs st0 sts rows → rows.length ≤ sts.length → (∀ x ∈ rows, x.length = w) → f + rows.length = most → WkE hs st0 w most (walkS hs w most f sts rows).1 (walkS hs w most f sts rows).2
  | 0, sts, rows, h, hle, hw, hf => ⟨h, hle, hw, fun h1 => by show rows.length = sts.length; have h1 : sts.length ≤ most := h1; omega⟩
  | f + 1, sts, rows, h, hle, hw, hf => by
    unfold walkS
    split
    · rename_i hc
      have hst : sts[rows.length]? = some (stA sts rows.length) := by
        unfold stA
        rw [List.getD_eq_getElem?_getD, List.getElem?_eq_getElem hc.1]
        rfl
      obtain ⟨k1, t, k2⟩ := rowS_wk0 w h hst
      have hl := (rowS_len hs (stA sts rows.length) (List.range w) sts).2
      refine walkS_wk f k1 ?_ (fun x hx => ?_) (by simp; omega)
      · rw [k2]
        simp
        omega
      · rcases List.mem_append.mp hx with hx | hx
        · exact hw x hx
        · rw [List.mem_singleton.mp hx, hl, List.length_range]
    · rename_i hc
      exact ⟨h, hle, hw, fun h1 => by
        show rows.length = sts.length
        have h1 : sts.length ≤ most := h1
        omega⟩
theorem walkY_wk (y : Yar) (most : Nat) : WkE y.h (y.h.map Hea.s) y.d.length most (walkY y most).1 (walkY y most).2 :=
  walkS_wk most ⟨by simp, rfl, fun a k x o e => by simp at e, fun b hb => .inl (by simpa using hb)⟩ (by simp) (by simp) (by simp)
/-- stands at the rooms of a map -/
structure Doe (hs : List Hea) (w : Nat) (r : Rows') (S : Nat → List Int) : Prop where
  zero : S 0 = hs.map Hea.s
  inj : ∀ a b, a < r.length → b < r.length → S a = S b → a = b
  go : ∀ a k b, way r a k b → thereB hs (S a) k = true ∧ ledL hs (S a) k = S b
  no : ∀ a k, a < r.length → k < w → oAt (rAt r a) k = none → thereB hs (S a) k = false
variable {sts : List (List Int)} {rows : Rows'} {w most : Nat} {r : Rows'} {S : Nat → List Int}
theorem oAt_way {r : Rows'} {a k : Nat} (ha : a < r.length) {b : Nat} (h : oAt (rAt r a) k = some b) : way r a k b := by
  refine ⟨rAt r a, rAt_some ha, ?_⟩
  unfold oAt at h
  rw [List.getD_eq_getElem?_getD] at h
  cases hx : (rAt r a)[k]? with
  | none => rw [hx] at h; cases h
  | some o => rw [hx] at h; exact congrArg some h
theorem way_oAt {r : Rows'} {a k b : Nat} (h : way r a k b) : oAt (rAt r a) k = some b := by
  obtain ⟨x, h1, h2⟩ := h
  rw [rAt_eq h1, oAt_eq h2]
/-- each stand of a walk is a room's -/
theorem Doe.all (d : Doe hs w r S) (ok : OkRows w r) (wk : Wk hs (hs.map Hea.s) sts rows) (hw : ∀ x ∈ rows, x.length = w) : ∀ (n b : Nat), b ≤ n → b < sts.length → ∃ a, a < r.length ∧ sts[b]? = some (S a) := by
  intro n
  induction n with
  | zero =>
    intro b hb hl
    have : b = 0 := by omega
    subst this
    exact ⟨0, ok.pos, by rw [wk.st0, d.zero]⟩
  | succ n ih =>
    intro b hb hl
    rcases wk.com b hl with h | ⟨i, k, hib, x, hx, hk⟩
    · subst h
      exact ⟨0, ok.pos, by rw [wk.st0, d.zero]⟩
    · obtain ⟨st, h1, _, h3⟩ := wk.row i k x (some b) hx hk
      obtain ⟨h4, h5⟩ := h3 b rfl
      obtain ⟨a, ha, e⟩ := ih i (by omega) (by omega)
      rw [e] at h1
      cases h1
      have hkw : k < w := by
        have := (List.getElem?_eq_some_iff.mp hk).1
        rw [hw x (List.mem_of_getElem? hx)] at this
        exact this
      cases ho : oAt (rAt r a) k with
      | none => rw [d.no a k ha hkw ho] at h4; cases h4
      | some a' =>
        have hway := oAt_way ha ho
        exact ⟨a', ok.rng _ _ _ hway, by rw [h5, (d.go a k a' hway).2]⟩
theorem Doe.few (d : Doe hs w r S) (ok : OkRows w r) (wk : Wk hs (hs.map Hea.s) sts rows) (hw : ∀ x ∈ rows, x.length = w) : sts.length ≤ r.length := by
  -- the rooms of the stands are unlike
  have hall := fun b hb => d.all ok wk hw b b (Nat.le_refl _) hb
  have hex : ∃ f : Nat → Nat, ∀ b, b < sts.length → f b < r.length ∧ sts[b]? = some (S (f b)) := by
    refine ⟨fun b => if h : b < sts.length then Classical.choose (hall b h) else 0, fun b hb => ?_⟩
    simp only [dif_pos hb]
    exact Classical.choose_spec (hall b hb)
  obtain ⟨f, hf⟩ := hex
  have nd : ((List.range sts.length).map f).Nodup := by
    rw [List.nodup_iff_pairwise_ne, List.pairwise_map]
    refine List.Pairwise.imp_of_mem (fun {a b} ha hb hab => ?_) (List.nodup_iff_pairwise_ne.mp List.nodup_range)
    intro e
    have h1 := hf a (by simpa using ha)
    have h2 := hf b (by simpa using hb)
    rw [e, ← h2.2] at h1
    exact hab ((List.getElem?_inj (by simpa using ha) wk.nd).mp h1.2)
  have := nodup_len r.length _ nd fun a ha => by
    obtain ⟨b, hb, rfl⟩ := List.mem_map.mp ha
    exact (hf b (by simpa using hb)).1
  simpa using this
theorem Doe.met (d : Doe hs w r S) (ok : OkRows w r) (e : WkE hs (hs.map Hea.s) w most sts rows) (hf : rows.length = sts.length) : ∀ a, Com r a → S a ∈ sts := by
  intro a ha
  induction ha with
  | zero => rw [d.zero]; exact List.mem_of_getElem? e.wk.st0
  | @step a k b hc hw ih =>
    obtain ⟨i, hi⟩ := List.mem_iff_getElem?.mp ih
    have hil : i < rows.length := by rw [hf]; exact (List.getElem?_eq_some_iff.mp hi).1
    have hk : k < (rAt rows i).length := by
      rw [e.wid _ (rAt_mem hil)]
      obtain ⟨x, h1, h2⟩ := hw
      rw [← ok.wid x (List.mem_of_getElem? h1)]
      exact (List.getElem?_eq_some_iff.mp h2).1
    obtain ⟨st, h1, h2, h3⟩ := e.wk.row i k _ _ (rAt_some hil) (oAt_get hk)
    rw [hi] at h1
    cases h1
    obtain ⟨g1, g2⟩ := d.go a k b hw
    cases ho : oAt (rAt rows i) k with
    | none => rw [h2 ho] at g1; cases g1
    | some j => rw [← g2]; exact List.mem_of_getElem? (h3 j ho).2
theorem Doe.len (d : Doe hs w r S) (ok : OkRows w r) (e : WkE hs (hs.map Hea.s) w r.length sts rows) : sts.length = r.length ∧ rows.length = sts.length := by
  have h1 := d.few ok e.wk e.wid
  have h2 := e.fin h1
  refine ⟨Nat.le_antisymm h1 ?_, h2⟩
  have hm := d.met ok e h2
  have nd : ((List.range r.length).map fun a => sts.idxOf (S a)).Nodup := by
    rw [List.nodup_iff_pairwise_ne, List.pairwise_map]
    refine List.Pairwise.imp_of_mem (fun {a b} ha hb hab => ?_) (List.nodup_iff_pairwise_ne.mp List.nodup_range)
    intro q
    have ha : a < r.length := by simpa using ha
    have hb : b < r.length := by simpa using hb
    have e1 := List.getElem_idxOf (List.idxOf_lt_length_iff.mpr (hm a (ok.com a ha)))
    have e2 := List.getElem_idxOf (List.idxOf_lt_length_iff.mpr (hm b (ok.com b hb)))
    refine hab (d.inj a b ha hb ?_)
    rw [← e1, ← e2]
    congr 1
  have := nodup_len sts.length _ nd fun i hi => by
    obtain ⟨a, ha, rfl⟩ := List.mem_map.mp hi
    exact List.idxOf_lt_length_iff.mpr (hm a (ok.com a (by simpa using ha)))
  simpa using this
end Y
end Mir

/-! Mir: whether a yard does a map. -/
namespace Mir
namespace Y
open PySem PySem.Spec PyProof.Rows L2 Mir
section
variable {hs : List Hea} {sts : List (List Int)} {rows : Rows'} {w : Nat} {r : Rows'} {S : Nat → List Int}
/-- the walk of a yard that does a map is the map -/
theorem Doe.iso (d : Doe hs w r S) (ok : OkRows w r) (e : WkE hs (hs.map Hea.s) w r.length sts rows) : (∀ k, k < w → ∃ a b, way rows a k b) ∧ ∃ f, Iso rows r f := by
  obtain ⟨hl, hf⟩ := d.len ok e
  have hm := d.met ok e hf
  have hall := fun b hb => d.all ok e.wk e.wid b b (Nat.le_refl _) hb
  have hex : ∃ f : Nat → Nat, ∀ b, b < sts.length → f b < r.length ∧ sts[b]? = some (S (f b)) := by
    refine ⟨fun b => if h : b < sts.length then Classical.choose (hall b h) else 0, fun b hb => ?_⟩
    simp only [dif_pos hb]
    exact Classical.choose_spec (hall b hb)
  obtain ⟨f, hf2⟩ := hex
  have entry : ∀ i k, i < rows.length → k < w → oAt (rAt r (f i)) k = (oAt (rAt rows i) k).map f := fun i k hi hk => by
    have hi2 := hf2 i (by omega)
    obtain ⟨st, h1, h2, h3⟩ := e.wk.row i k _ _ (rAt_some hi) (oAt_get (by rw [e.wid _ (rAt_mem hi)]; exact hk))
    rw [hi2.2] at h1
    cases h1
    cases ho : oAt (rAt rows i) k with
    | none =>
      have hno := h2 ho
      cases hq : oAt (rAt r (f i)) k with
      | none => rfl
      | some b => rw [(d.go _ _ _ (oAt_way hi2.1 hq)).1] at hno; cases hno
    | some j =>
      obtain ⟨h4, h5⟩ := h3 j ho
      cases hq : oAt (rAt r (f i)) k with
      | none => rw [d.no _ _ hi2.1 hk hq] at h4; cases h4
      | some b =>
        have hway := oAt_way hi2.1 hq
        have hj := hf2 j (List.getElem?_eq_some_iff.mp h5).1
        rw [h5, (d.go _ _ _ hway).2] at hj
        show some b = some (f j)
        rw [d.inj b (f j) (ok.rng _ _ _ hway) hj.1 (Option.some.inj hj.2)]
  refine ⟨fun k hk => ?_, f, by omega, ?_, fun a ha => (hf2 a (by omega)).1, fun a b ha hb q => ?_, fun i hi => ?_⟩
  · obtain ⟨a, b, hw⟩ := ok.deed k hk
    have haw := (way_wid ok.wid hw).1
    obtain ⟨i, hi⟩ := List.mem_iff_getElem?.mp (hm a (ok.com a haw))
    have hil := (List.getElem?_eq_some_iff.mp hi).1
    have e1 := hf2 i hil
    rw [hi] at e1
    have e2 := d.inj a (f i) haw e1.1 (Option.some.inj e1.2)
    have e3 := entry i k (by omega) hk
    rw [← e2, way_oAt hw] at e3
    cases ho : oAt (rAt rows i) k with
    | none => rw [ho] at e3; cases e3
    | some j => exact ⟨i, j, oAt_way (by omega) ho⟩
  · have e1 := hf2 0 (List.getElem?_eq_some_iff.mp e.wk.st0).1
    rw [e.wk.st0] at e1
    have e2 := Option.some.inj e1.2
    rw [← d.zero] at e2
    exact (d.inj 0 (f 0) ok.pos e1.1 e2).symm
  · have e1 := hf2 a (by omega)
    have e2 := hf2 b (by omega)
    rw [q, ← e2.2] at e1
    exact (List.getElem?_inj (by omega) e.wk.nd).mp e1.2
  · have hi2 := (hf2 i (by omega)).1
    refine List.ext_getElem? fun k => ?_
    have l1 := ok.wid _ (rAt_mem hi2)
    have l2 := e.wid _ (rAt_mem hi)
    by_cases hk : k < w
    · rw [oAt_get (by omega), List.getElem?_map, oAt_get (by omega)]
      exact congrArg some (entry i k hi hk)
    · rw [List.getElem?_eq_none (by omega), List.getElem?_eq_none (by simp; omega)]
end
section
variable {m : Mem} {P : D → Mem → Prop}
end
end Y
end Mir

/-! Mir: yards of heaps that stand in a map. -/
namespace Mir
namespace Y
open PySem PySem.Spec PyProof.Rows L2 Mir
section
variable {hs : List Hea} {w : Nat} {r : Rows'}
/-- the counts of heaps at a room -/
noncomputable def cntS (r : Rows') (hs : List Hea) (a : Nat) : List Int := hs.map fun x => cntH x (levOf r x) a
theorem there_map (hs : List Hea) (f : Hea → Int) (k : Nat) : thereB hs (hs.map f) k = hs.all fun x => decide (tk x k ≤ f x) := by
  unfold thereB
  induction hs with
  | nil => rfl
  | cons x xs ih => simp only [List.map_cons, List.zip_cons_cons, List.all_cons, ih]
theorem led_map (hs : List Hea) (f : Hea → Int) (k : Nat) : ledL hs (hs.map f) k = hs.map fun x => f x - tk x k + lk x k := by
  unfold ledL
  induction hs with
  | nil => rfl
  | cons x xs ih => simp only [List.map_cons, List.zip_cons_cons, ih]
theorem cntS_go (ok : OkRows w r) (fit : Fit w hs) (st : ∀ x ∈ hs, Stands r x) {a k b : Nat} (hw : way r a k b) : thereB hs (cntS r hs a) k = true ∧ ledL hs (cntS r hs a) k = cntS r hs b := by
  have hk := (way_wid ok.wid hw).2
  refine ⟨?_, ?_⟩
  · unfold cntS
    rw [there_map, List.all_eq_true]
    intro x hx
    exact decide_eq_true ((levOf_stn (st x hx)).en a k b hw)
  · unfold cntS
    rw [led_map]
    refine List.map_congr_left fun x hx => ?_
    have h1 := (levOf_stn (st x hx)).lev.w a k b hw
    rw [effL_at (fit x hx).1 (fit x hx).2 hk] at h1
    unfold cntH
    omega
theorem Doe.cnt (ok : OkRows w r) (fit : Fit w hs) (st : ∀ x ∈ hs, Stands r x) {S : Nat → List Int} (d : Doe hs w r S) : ∀ a, Com r a → S a = cntS r hs a := by
  intro a ha
  induction ha with
  | zero =>
    rw [d.zero]
    unfold cntS
    refine List.map_congr_left fun x hx => ?_
    have := (levOf_stn (st x hx)).lev.z
    unfold cntH
    omega
  | step h hw ih => rw [← (d.go _ _ _ hw).2, ih, (cntS_go ok fit st hw).2]
theorem doe_iff (ok : OkRows w r) (fit : Fit w hs) (st : ∀ x ∈ hs, Stands r x) :
    (∃ S, Doe hs w r S) ↔ (∀ a b, a < b → b < r.length → ParL r hs a b) ∧ ∀ a k, a < r.length → k < w → hasW r k a = false → BarL r hs a k := by
  constructor
  · rintro ⟨S, d⟩
    have hc := fun a ha => d.cnt ok fit st a (ok.com a ha)
    refine ⟨fun a b hab hb => ?_, fun a k ha hk hno => ?_⟩
    · refine Classical.byContradiction fun hn => ?_
      have : S a = S b := by
        rw [hc a (by omega), hc b hb]
        unfold cntS
        refine List.map_congr_left fun x hx => ?_
        refine Classical.byContradiction fun hne => hn ⟨x, hx, hne⟩
      have := d.inj a b (by omega) hb this
      omega
    · have h1 := d.no a k ha hk (by
        unfold hasW at hno
        cases ho : oAt (rAt r a) k with
        | none => rfl
        | some b => rw [ho] at hno; cases hno)
      rw [hc a ha] at h1
      unfold cntS at h1
      rw [there_map] at h1
      obtain ⟨x, hx, h2⟩ := List.all_eq_false.mp h1
      exact ⟨x, hx, by simpa using h2⟩
  · rintro ⟨hp, hb⟩
    refine ⟨cntS r hs, ?_, fun a b ha hb' e => ?_, fun a k b hw => cntS_go ok fit st hw, fun a k ha hk ho => ?_⟩
    · unfold cntS
      refine List.map_congr_left fun x hx => ?_
      have := (levOf_stn (st x hx)).lev.z
      unfold cntH
      omega
    · have key : ∀ a b, a < b → b < r.length → cntS r hs a ≠ cntS r hs b := fun a b hab hb e => by
        obtain ⟨x, hx, hne⟩ := hp a b hab hb
        unfold cntS at e
        exact hne (List.map_inj_left.mp e x hx)
      rcases Nat.lt_trichotomy a b with h | h | h
      · exact absurd e (key a b h hb')
      · exact h
      · exact absurd e.symm (key b a h ha)
    · obtain ⟨x, hx, hlt⟩ := hb a k ha hk (by unfold hasW; rw [ho]; rfl)
      unfold cntS
      rw [there_map]
      exact List.all_eq_false.mpr ⟨x, hx, by simpa using hlt⟩
end
/-! ### lean yards -/
section
variable {m : Mem} {P : D → Mem → Prop}
end
end Y
end Mir

/-! Mir: loose heaps; heaps compared. -/
namespace Mir
namespace Y
open PySem PySem.Spec PyProof.Rows L2 Mir
/-- a heap of effects with a greater start, lesser takes -/
structure Loo (r : Rows') (w : Nat) (es : List Int) (L : Nat → Int) (x : Hea) : Prop where
  t : x.t.length = w
  l : x.l.length = w
  eff : effL x = es
  s : tgtS r L ≤ x.s ∧ x.s ≤ tgtS r L + 2
  t0 : ∀ v ∈ x.t, 0 ≤ v
  l0 : ∀ v ∈ x.l, 0 ≤ v
  pos : ∀ a, a < r.length → 0 ≤ x.s + L a
  en : Enough r x (cntH x L)
section
variable {m : Mem} {c : Cha} {P : D → Mem → Prop} {i : Nat}
theorem Loo.stn {r : Rows'} {w : Nat} {es : List Int} {L : Nat → Int} {x : Hea} (h : Loo r w es L x) (hL : IsLev r (eAt es) L) : Stn r x L := ⟨by rw [h.eff]; exact hL, h.pos, h.en⟩
end
instance : DecidableEq Hea := fun a b => by
  obtain ⟨s, t, l⟩ := a
  obtain ⟨s', t', l'⟩ := b
  by_cases h : s = s' ∧ t = t' ∧ l = l'
  · exact isTrue (by rw [h.1, h.2.1, h.2.2])
  · exact isFalse fun e => h (by injection e with e1 e2 e3; exact ⟨e1, e2, e3⟩)
end Y
end Mir

/-! Mir: the laws' walk of a yard, to the sign. -/
namespace Mir
namespace Y
open PySem PySem.Spec PyProof.Rows L2 Mir
/-! ### a walk's rows are told as they come up -/
end Y
end Mir

/-! Mir: walks by other bounds, how many stands a walk has, the program's walked where it does not raise. -/
namespace Mir
namespace Y
open PySem PySem.Spec PyProof.Rows L2 Mir
/-! ### how many stands -/
/-- a yard that is asked about -/
structure Yd (y : Yar) : Prop where
  nm : Nms y.d
  fit : Fit y.d.length y.h
  hl : y.h.length ≤ 900
  hd : y.d.length ≤ 900
end Y
end Mir

/-! Mir: a walk laid on a map by a dict of rooms (the laws' own does). -/
namespace Mir
namespace Y
open PySem PySem.Spec PyProof.Rows L2 Mir
section
variable {m : Mem}
/-! ### dicts of rooms -/
def updN (f : Nat → Nat) (b c : Nat) : Nat → Nat := fun z => if z = b then c else f z
/-! ### the search -/
structure Lie (w n : Nat) (R R' : Rows') (ord : List Nat) (f : Nat → Nat) (left : List Nat) : Prop where
  nd : ord.Nodup
  z : 0 ∈ ord ∧ f 0 = 0
  lt : ∀ a ∈ ord, a < n ∧ f a < n
  iso : ∀ g, Iso R R' g → ∀ a ∈ ord, g a = f a
  sub : ∀ a ∈ left, a ∈ ord
/-- a room's ways are looked at, those below j -/
def Did (R R' : Rows') (ord : List Nat) (f : Nat → Nat) (a j : Nat) : Prop := ∀ k, k < j → (oAt (rAt R a) k = none ∧ oAt (rAt R' (f a)) k = none) ∨ ∃ b, oAt (rAt R a) k = some b ∧ oAt (rAt R' (f a)) k = some (f b) ∧ b ∈ ord
theorem Lie.len {w n : Nat} {R R' : Rows'} {ord left : List Nat} {f : Nat → Nat} (h : Lie w n R R' ord f left) : ord.length ≤ n := by
  have := nodup_le ord (List.range n) h.nd fun x hx => List.mem_range.mpr (h.lt x hx).1
  rwa [List.length_range] at this
theorem updN_ne {f : Nat → Nat} {b c a : Nat} (h : a ≠ b) : updN f b c a = f a := if_neg h
theorem Did.add {R R' : Rows'} {ord : List Nat} {f : Nat → Nat} {a j b c : Nat} (h : Did R R' ord f a j) (ha : a ∈ ord) (hb : b ∉ ord) : Did R R' (ord ++ [b]) (updN f b c) a j := fun k hk => by
  have ne : ∀ {x}, x ∈ ord → x ≠ b := fun {x} hx e => hb (e ▸ hx)
  rw [updN_ne (ne ha)]
  rcases h k hk with h | ⟨x, h1, h2, h3⟩
  · exact .inl h
  · exact .inr ⟨x, h1, by rw [updN_ne (ne h3)]; exact h2, List.mem_append_left _ h3⟩
theorem oAt_map {x : List (Option Nat)} {g : Nat → Nat} (k : Nat) : oAt (x.map (Option.map g)) k = (oAt x k).map g := by
  unfold oAt
  rw [List.getD_eq_getElem?_getD, List.getD_eq_getElem?_getD, List.getElem?_map]
  cases x[k]? with
  | none => rfl
  | some o => rfl
theorem Iso.at {R R' : Rows'} {g : Nat → Nat} (i : Iso R R' g) {a : Nat} (ha : a < R.length) (k : Nat) : oAt (rAt R' (g a)) k = (oAt (rAt R a) k).map g := by
  rw [i.row a ha, oAt_map]
/-- all rooms are done: the search has found just the one -/
theorem Lie.all {w n : Nat} {R R' : Rows'} {ord : List Nat} {f : Nat → Nat} (h : Lie w n R R' ord f []) (hd : ∀ a ∈ ord, Did R R' ord f a w) (hR : R.length = n) (hwid : ∀ x ∈ R, x.length = w) (hcom : ∀ b, b < n → Com R b) : ∀ a, a < n → a ∈ ord := by
  have key : ∀ b, Com R b → b ∈ ord := fun b hb => by
    induction hb with
    | zero => exact h.z.1
    | @step a k b ha hw ih =>
      have hk := way_wid hwid hw
      rcases hd a ih k hk.2 with ⟨q, _⟩ | ⟨x, q, _, hx⟩
      · rw [way_oAt hw] at q; cases q
      · rw [way_oAt hw] at q
        cases q
        exact hx
  exact fun a ha => key a (hcom a ha)
theorem Lie.found {w n : Nat} {R R' : Rows'} {ord : List Nat} {f : Nat → Nat} (h : Lie w n R R' ord f []) (hd : ∀ a ∈ ord, Did R R' ord f a w) (hR : R.length = n) (hR' : R'.length = n) (hwid : ∀ x ∈ R, x.length = w) (hwid' : ∀ x ∈ R', x.length = w) (hcom : ∀ b, b < n → Com R b) :
    (∃ g, Iso R R' g) ↔ (unl (ord.map fun a => ((f a : Nat) : Int))).length = n := by
  have all := h.all hd hR hwid hcom
  have hl : ord.length = n := by
    refine Nat.le_antisymm h.len ?_
    have := nodup_le (List.range n) ord List.nodup_range fun x hx => all x (List.mem_range.mp hx)
    rwa [List.length_range] at this
  have hl2 : (ord.map fun a => ((f a : Nat) : Int)).length = n := by rw [List.length_map, hl]
  rw [show ((unl (ord.map fun a => ((f a : Nat) : Int))).length = n ↔ (ord.map fun a => ((f a : Nat) : Int)).Nodup) from by rw [← unl_all, hl2]]
  constructor
  · rintro ⟨g, i⟩
    refine List.pairwise_map.mpr (List.Pairwise.imp_of_mem (fun {a b} ha hb hne e => hne ?_) h.nd)
    have e : f a = f b := by omega
    rw [← h.iso g i a ha, ← h.iso g i b hb] at e
    exact i.inj a b (by rw [hR]; exact (h.lt a ha).1) (by rw [hR]; exact (h.lt b hb).1) e
  · intro nd
    have inj : ∀ a b, a ∈ ord → b ∈ ord → f a = f b → a = b := fun a b ha hb e => by
      obtain ⟨x, hx, rfl⟩ := List.getElem_of_mem ha
      obtain ⟨y, hy, rfl⟩ := List.getElem_of_mem hb
      have : x = y := by
        refine (List.getElem_inj (h₀ := by rw [List.length_map]; exact hx) (h₁ := by rw [List.length_map]; exact hy) nd).mp ?_
        simp [e]
      subst this
      rfl
    refine ⟨f, ⟨by rw [hR, hR'], h.z.2, fun a ha => by rw [hR']; exact (h.lt a (all a (by omega))).2, fun a b ha hb e => inj a b (all a (by omega)) (all b (by omega)) e, fun a ha => ?_⟩⟩
    have ha' := all a (by omega)
    have l1 : (rAt R' (f a)).length = w := hwid' _ (rAt_mem (by rw [hR']; exact (h.lt a ha').2))
    have l2 : (rAt R a).length = w := hwid _ (rAt_mem ha)
    refine List.ext_getElem? fun k => ?_
    by_cases hk : k < w
    · rw [oAt_get (by omega), oAt_get (by rw [List.length_map]; omega), oAt_map]
      rcases hd a ha' k hk with ⟨q1, q2⟩ | ⟨b, q1, q2, _⟩
      · rw [q1, q2]; rfl
      · rw [q1, q2]; rfl
    · rw [List.getElem?_eq_none (by omega), List.getElem?_eq_none (by rw [List.length_map]; omega)]
end
end Y
end Mir

/-! Mir: a drawn yard with its map (the laws' doing yard). -/
namespace Mir
namespace Y
open PySem PySem.Spec PyProof.Rows L2 Mir
/-- a yard, and the map that it does -/
structure Dg (most : Nat) (y : Yar) (c : Cha) : Prop where
  ok : OkYar y
  n : c.n = y.d
  r : c.r = (walkY y most).2
  cha : OkCha c
  few : c.r.length ≤ most
  len : (walkY y most).1.length = c.r.length
  doe : ∃ S, Doe y.h c.n.length c.r S
  own : Own c.n.length c.r
  two : 1 < c.r.length
  d1 : 1 ≤ y.d.length
  stn : ∀ x ∈ y.h, Stands c.r x
section
variable {m : Mem} {i : Nat} {P : D → Mem → Prop}
end
theorem nth_zero {n : Nat} {ord : List Nat} (h : Ord n ord) : nth ord 0 = 0 := by
  unfold nth
  rw [List.getD_eq_getElem?_getD, h.head]
  rfl
theorem reR_len {ord : List Nat} {r : Rows'} : (reR ord r).length = ord.length := by unfold reR; simp
/-- a yard does the map in another order, too -/
theorem Doe.re {hs : List Hea} {w : Nat} {r : Rows'} {S : Nat → List Int} (d : Doe hs w r S) (ok : OkRows w r) {ord : List Nat} (h : Ord r.length ord) : Doe hs w (reR ord r) fun a => S (nth ord a) := by
  have hl := h.len
  have lt : ∀ a, a < (reR ord r).length → nth ord a < r.length := fun a ha => h.mem.mp (List.mem_of_getElem? (nth_lt (by rw [reR_len] at ha; exact ha)))
  refine ⟨by rw [nth_zero h]; exact d.zero, fun a b ha hb e => ?_, fun a k b hw => d.go _ _ _ (way_re' ok h hw), fun a k ha hk hno => d.no _ k (lt a ha) hk ?_⟩
  · rw [reR_len] at ha hb
    have := d.inj _ _ (h.mem.mp (List.mem_of_getElem? (nth_lt ha))) (h.mem.mp (List.mem_of_getElem? (nth_lt hb))) e
    rw [← h.idx (nth_lt ha), ← h.idx (nth_lt hb), this]
  · have e : rAt (reR ord r) a = reRow ord (rAt r (nth ord a)) := by
      have ha' : a < ord.length := by rw [reR_len] at ha; exact ha
      have h1 : (reR ord r)[a]? = some (reRow ord (rAt r (nth ord a))) := by
        unfold reR
        rw [List.getElem?_map, nth_lt ha']
        rfl
      have h2 := rAt_some ha
      rw [h1] at h2
      exact (Option.some.inj h2).symm
    rw [e] at hno
    unfold reRow at hno
    rw [oAt_map] at hno
    cases hq : oAt (rAt r (nth ord a)) k with
    | none => rfl
    | some b => rw [hq] at hno; cases hno
instance decYar : DecidableEq Yar := fun a b => decidable_of_iff (a.d = b.d ∧ a.h = b.h) (by cases a; cases b; simp)
end Y
end Mir

/-! Mir: woven, told as a yard or a paper; a map that parts and bars, in another order. -/
namespace Mir
namespace Y
open PySem PySem.Spec PyProof.Rows L2 Mir
open Sx (sm)
theorem Stn.un {w : Nat} {r : Rows'} {x : Hea} {L : Nat → Int} (ok : OkRows w r) {ord : List Nat} (h : Ord r.length ord) (st : Stn (reR ord r) x L) : Stn r x fun a => L (ord.idxOf a) := by
  have wy : ∀ {a k b : Nat}, way r a k b → way (reR ord r) (ord.idxOf a) k (ord.idxOf b) := fun {a k b} hw => (way_re h (ok.rng _ _ _ hw)).mpr ⟨fun _ => hw, (way_wid ok.wid hw).1⟩
  have h0 := h.idx h.head
  refine ⟨⟨?_, fun a k b hw => st.lev.w _ _ _ (wy hw)⟩, fun a ha => ?_, fun a k b hw => st.en _ _ _ (wy hw)⟩
  · show L (ord.idxOf 0) = 0
    rw [h0]
    exact st.lev.z
  · refine st.pos _ ?_
    rw [reR_len]
    exact List.idxOf_lt_length_iff.mpr (h.mem.mpr ha)
theorem Own.un {w : Nat} {r : Rows'} (ok : OkRows w r) {ord : List Nat} (h : Ord r.length ord) (o : Own w (reR ord r)) : Own w r := by
  have lt : ∀ {a : Nat}, a < r.length → ord.idxOf a < (reR ord r).length := fun {a} ha => by
    rw [reR_len]
    exact List.idxOf_lt_length_iff.mpr (h.mem.mpr ha)
  refine ⟨fun a b ha hb hne => ?_, fun a k ha hk hno => ?_⟩
  · obtain ⟨x, L, st, h1⟩ := o.part _ _ (lt ha) (lt hb) (fun e => hne (by
      have g1 := h.get ha
      rw [e, h.get hb] at g1
      exact (Option.some.inj g1).symm))
    exact ⟨x, _, st.un ok h, h1⟩
  · have hno' : hasW (reR ord r) k (ord.idxOf a) = false := by
      cases hh : hasW (reR ord r) k (ord.idxOf a) with
      | false => rfl
      | true =>
        obtain ⟨b, hw⟩ := hasW_iff.mp hh
        have hw' := way_re' ok h hw
        have e : nth ord (ord.idxOf a) = a := by
          unfold nth
          rw [List.getD_eq_getElem?_getD, h.get ha]
          rfl
        rw [e] at hw'
        rw [hasW_iff.mpr ⟨_, hw'⟩] at hno
        cases hno
    obtain ⟨x, L, st, h1⟩ := o.bar _ k (lt ha) hk hno'
    exact ⟨x, _, st.un ok h, h1⟩
theorem own_of {w : Nat} {r : Rows'} {xs : List Hea} (hst : ∀ x ∈ xs, Stands r x) (hp : ∀ a b, a < b → b < r.length → ParL r xs a b) (hb : ∀ a k, a < r.length → k < w → hasW r k a = false → BarL r xs a k) : Own w r := by
  refine ⟨fun a b ha hb' hne => ?_, fun a k ha hk hno => ?_⟩
  · rcases Nat.lt_or_gt_of_ne hne with hlt | hlt
    · obtain ⟨x, hx, q⟩ := hp a b hlt hb'
      exact ⟨x, _, levOf_stn (hst x hx), q⟩
    · obtain ⟨x, hx, q⟩ := hp b a hlt ha
      exact ⟨x, _, levOf_stn (hst x hx), fun e => q e.symm⟩
  · obtain ⟨x, hx, q⟩ := hb a k ha hk hno
    exact ⟨x, _, levOf_stn (hst x hx), q⟩
theorem own_doe {w : Nat} {r : Rows'} {xs : List Hea} (ok : OkRows w r) (fit : Fit w xs) (hst : ∀ x ∈ xs, Stands r x) (h : ∃ S, Doe xs w r S) : Own w r :=
  own_of hst ((doe_iff ok fit hst).mp h).1 ((doe_iff ok fit hst).mp h).2
section
variable {hs : List Hea} {w : Nat} {r : Rows'} {S : Nat → List Int}
theorem Doe.good (d : Doe hs w r S) (s0 : ∀ x ∈ hs, 0 ≤ x.s) (l0 : ∀ x ∈ hs, ∀ k, 0 ≤ lk x k) : ∀ a, Com r a → (S a).length = hs.length ∧ ∀ i, i < hs.length → 0 ≤ (S a).getD i 0 := by
  intro a ha
  induction ha with
  | zero =>
    rw [d.zero]
    refine ⟨by simp, fun i hi => ?_⟩
    rw [List.getD_eq_getElem?_getD, List.getElem?_map, List.getElem?_eq_getElem hi]
    exact s0 _ (List.getElem_mem hi)
  | @step a b k h hw ih =>
    obtain ⟨h1, h2⟩ := d.go _ _ _ hw
    rw [← h2]
    refine ⟨led_len ih.1, fun i hi => ?_⟩
    have hx : hs[i]? = some hs[i] := List.getElem?_eq_getElem hi
    rw [led_at ih.1 hx]
    have q1 := there_at ih.1 hx h1
    have q2 := fun k => l0 _ (List.getElem_mem hi) k
    first
      | (have q3 := q2 k; omega)
      | (have q3 := q2 b; omega)
      | (have q3 := q2 a; omega)
theorem Doe.stn (d : Doe hs w r S) (ok : OkRows w r) (fit : Fit w hs) (s0 : ∀ x ∈ hs, 0 ≤ x.s) (l0 : ∀ x ∈ hs, ∀ k, 0 ≤ lk x k) {i : Nat} {x : Hea} (hx : hs[i]? = some x) : Stn r x fun a => (S a).getD i 0 - x.s := by
  have hi := (List.getElem?_eq_some_iff.mp hx).1
  have hm := List.mem_of_getElem? hx
  refine ⟨⟨?_, fun a k b hw => ?_⟩, fun a ha => ?_, fun a k b hw => ?_⟩
  · show (S 0).getD i 0 - x.s = 0
    rw [d.zero, List.getD_eq_getElem?_getD, List.getElem?_map, hx]
    show x.s - x.s = 0
    omega
  · have g := d.good s0 l0 a (ok.com a (way_wid ok.wid hw).1)
    obtain ⟨h1, h2⟩ := d.go _ _ _ hw
    have := led_at (k := k) g.1 hx
    rw [h2] at this
    show (S b).getD i 0 - x.s = (S a).getD i 0 - x.s + eAt (effL x) k
    rw [effL_at (fit x hm).1 (fit x hm).2 (way_wid ok.wid hw).2]
    omega
  · have g := d.good s0 l0 a (ok.com a ha)
    have := g.2 i hi
    show 0 ≤ x.s + ((S a).getD i 0 - x.s)
    omega
  · have g := d.good s0 l0 a (ok.com a (way_wid ok.wid hw).1)
    obtain ⟨h1, h2⟩ := d.go _ _ _ hw
    have := there_at g.1 hx h1
    show tk x k ≤ x.s + ((S a).getD i 0 - x.s)
    omega
theorem Doe.own (d : Doe hs w r S) (ok : OkRows w r) (fit : Fit w hs) (s0 : ∀ x ∈ hs, 0 ≤ x.s) (l0 : ∀ x ∈ hs, ∀ k, 0 ≤ lk x k) : Own w r :=
  own_doe ok fit (fun x hx => by
    obtain ⟨i, hi⟩ := List.mem_iff_getElem?.mp hx
    exact ⟨_, d.stn ok fit s0 l0 hi⟩) ⟨S, d⟩
end
end Y
end Mir

/-! Mir: the least yard. -/
namespace Mir
namespace Y
open PySem PySem.Spec PyProof.Rows L2 Mir
open Sx (sm)
/-- a step is shown behind a row -/
def Shw (r : Rows') (w : Nat) (ks : List Nat) (k : Nat) : Prop := ∃ U g wt, 0 < U ∧ Stp' r w U g wt k (gon w ks)
/-- a heap that bars behind some row -/
def Hpd (r : Rows') (w : Nat) (x : Hea) : Prop := ∃ k gone, Bhd r w x k gone
def Bar (w : Nat) (x : Hea) (ks : List Nat) (k : Nat) : Prop := cntR w x ks < tk x k
instance (w : Nat) (x : Hea) (ks : List Nat) (k : Nat) : Decidable (Bar w x ks k) := by unfold Bar; infer_instance
theorem Hpd.bears {r : Rows'} {w : Nat} {x : Hea} (h : Hpd r w x) : Bears r x := by obtain ⟨_, _, h⟩ := h; exact h.bears
theorem Hpd.t {r : Rows'} {w : Nat} {x : Hea} (h : Hpd r w x) : x.t.length = w := by obtain ⟨_, _, h⟩ := h; exact h.t
theorem Hpd.l {r : Rows'} {w : Nat} {x : Hea} (h : Hpd r w x) : x.l.length = w := by obtain ⟨_, _, h⟩ := h; exact h.l
theorem Shw.free {r : Rows'} {w k : Nat} {ks : List Nat} {x : Hea} (ok : OkRows w r) (s : Shw r w ks k) (h : Bears r x) : ¬ Bar w x ks k := fun hb => by
  obtain ⟨U, g, wt, hU, st⟩ := s
  have := st.enough ok hU h
  unfold Bar at hb
  omega
theorem Shw.gon {r : Rows'} {w k : Nat} {ks ls : List Nat} (h : gon w ks = gon w ls) (s : Shw r w ks k) : Shw r w ls k := by
  obtain ⟨U, g, wt, hU, st⟩ := s
  exact ⟨U, g, wt, hU, h ▸ st⟩
section
variable {m : Mem} {c : Cha} {P : D → Mem → Prop}
/-- heaps by which the rows up to a length are told -/
structure Ly (r : Rows') (w many : Nat) (hs : List Hea) : Prop where
  hp : ∀ x ∈ hs, Hpd r w x
  all : ∀ ks, ks.length < many → (∀ k ∈ ks, k < w) → (∀ j, j < ks.length → Shw r w (ks.take j) (nth ks j)) → ∀ k, k < w → (∃ x ∈ hs, Bar w x ks k) ∨ Shw r w ks k
/-- one row asked about -/
def Askd (r : Rows') (w : Nat) (hs : List Hea) (rs2 : List (List Nat)) (z : List Nat) (k : Nat) : Prop := (∃ x ∈ hs, Bar w x z k) ∨ (Shw r w z k ∧ ∃ z2 ∈ rs2, gon w z2 = gon w (z ++ [k]))
theorem Askd.more {r : Rows'} {w k : Nat} {hs hs' : List Hea} {rs rs' : List (List Nat)} {z : List Nat} (h : Askd r w hs rs z k) (h1 : ∀ x ∈ hs, x ∈ hs') (h2 : ∀ z ∈ rs, z ∈ rs') : Askd r w hs' rs' z k := by
  rcases h with ⟨x, hx, q⟩ | ⟨s, z2, hz, q⟩
  · exact .inl ⟨x, h1 x hx, q⟩
  · exact .inr ⟨s, z2, h2 z2 hz, q⟩
end
end Y
end Mir

/-! Mir: what is told of all pairs of rooms, in a dict. -/
namespace Mir
namespace Y
open PySem PySem.Spec PyProof.Rows L2 Mir
open Sx (sm)
/-- told of two rooms -/
inductive Tp where
  | hp (x : Hea)
  | go (g : Nat → Int) (U : Int)
structure OkTp (r : Rows') (w a b : Nat) (t : Tp) : Prop where
  hp : ∀ x, t = .hp x → ∃ L, Prt r w x L a b
  go : ∀ g U, t = .go g U → FrB (2 ^ 1061) U g ∧ GoP r w U g a b
/-- no heap that stands parts the rooms -/
def Evn (r : Rows') (a b : Nat) : Prop := ∀ x L, Stn r x L → cntH x L a = cntH x L b
theorem Evn.refl (r : Rows') (a : Nat) : Evn r a a := fun _ _ _ => rfl
theorem Evn.symm {r : Rows'} {a b : Nat} (h : Evn r a b) : Evn r b a := fun x L s => (h x L s).symm
theorem Evn.trans {r : Rows'} {a b c : Nat} (h : Evn r a b) (k : Evn r b c) : Evn r a c := fun x L s => (h x L s).trans (k x L s)
/-! ### pairs of rooms as keys -/
section
variable {m : Mem} {q : Nat} {r : Rows'} {ps : List (Nat × Nat)} {f : Nat × Nat → Tp}
end
/-! ### goes turned about and added -/
theorem GoP.turn {r : Rows'} {w : Nat} {U : Int} {g : Nat → Int} {a b : Nat} (h : GoP r w U g a b) : GoP r w U (fun p => - g p) b a := by
  refine ⟨fun e => h.ne e.symm, fun x hx => ?_, fun k hk => ?_⟩
  · have := h.room x hx
    have e : net r (fun p => - g p) x = - net r g x := by
      unfold net
      rw [show (fun p => - g p * ((if x = (wy r p).2.2 then (1 : Int) else 0) - (if x = (wy r p).1 then 1 else 0))) = fun p => -1 * (g p * ((if x = (wy r p).2.2 then (1 : Int) else 0) - (if x = (wy r p).1 then 1 else 0))) from funext fun p => by rw [Int.neg_mul, Int.neg_one_mul], Sx.sm_mul, Int.neg_one_mul]
    rw [e, this, ← Int.mul_neg]
    congr 1
    omega
  · have := h.deed k hk
    have e : dsm r (fun p => - g p) k = - dsm r g k := by
      unfold dsm
      rw [show (fun p => - g p * (if k = (wy r p).2.1 then (1 : Int) else 0)) = fun p => -1 * (g p * (if k = (wy r p).2.1 then (1 : Int) else 0)) from funext fun p => by rw [Int.neg_mul, Int.neg_one_mul], Sx.sm_mul, Int.neg_one_mul]
    rw [e, this]
    rfl
theorem GoP.add {r : Rows'} {w : Nat} {U V : Int} {g h : Nat → Int} {a b c : Nat} (h1 : GoP r w U g a b) (h2 : GoP r w V h b c) (hac : a ≠ c) : GoP r w (U * V) (fun p => V * g p + U * h p) a c := by
  refine ⟨hac, fun x hx => ?_, fun k hk => ?_⟩
  · have e1 := h1.room x hx
    have e2 := h2.room x hx
    have e : net r (fun p => V * g p + U * h p) x = V * net r g x + U * net r h x := by
      unfold net
      rw [← Sx.sm_mul, ← Sx.sm_mul, ← Sx.sm_add]
      refine Sx.sm_congr fun p _ => ?_
      rw [Int.add_mul, Int.mul_assoc, Int.mul_assoc]
    rw [e, e1, e2]
    generalize (if x = b then (1 : Int) else 0) = tb
    generalize (if x = a then (1 : Int) else 0) = ta
    generalize (if x = c then (1 : Int) else 0) = tc
    grind
  · have e1 := h1.deed k hk
    have e2 := h2.deed k hk
    have e : dsm r (fun p => V * g p + U * h p) k = V * dsm r g k + U * dsm r h k := by
      unfold dsm
      rw [← Sx.sm_mul, ← Sx.sm_mul, ← Sx.sm_add]
      refine Sx.sm_congr fun p _ => ?_
      rw [Int.add_mul, Int.mul_assoc, Int.mul_assoc]
    rw [e, e1, e2]
    simp
end Y
end Mir

/-! Mir: heaps that bear, steps that are shown, of a map in another order. -/
namespace Mir
namespace Y
open PySem PySem.Spec PyProof.Rows L2 Mir
open Sx (sm)
section
variable {r : Rows'} {w : Nat} {ord : List Nat}
theorem nth_idx (ho : Ord r.length ord) {a : Nat} (ha : a < r.length) : nth ord (ord.idxOf a) = a := by
  unfold nth
  rw [List.getD_eq_getElem?_getD, ho.get ha]
  rfl
theorem idx_nth (ho : Ord r.length ord) {i : Nat} (hi : i < r.length) : ord.idxOf (nth ord i) = i := ho.idx (nth_lt (by rw [ho.len]; exact hi))
theorem nth_rng (ho : Ord r.length ord) {i : Nat} (hi : i < r.length) : nth ord i < r.length := ho.mem.mp (List.mem_of_getElem? (nth_lt (by rw [ho.len]; exact hi)))
theorem idx_lt (ho : Ord r.length ord) {a : Nat} (ha : a < r.length) : ord.idxOf a < r.length := by
  have := List.idxOf_lt_length_iff.mpr (ho.mem.mpr ha)
  rwa [ho.len] at this
theorem way_idx (ok : OkRows w r) (ho : Ord r.length ord) {a k b : Nat} (hw : way r a k b) : way (reR ord r) (ord.idxOf a) k (ord.idxOf b) := (way_re ho (ok.rng _ _ _ hw)).mpr ⟨fun _ => hw, (way_wid ok.wid hw).1⟩
theorem Pth.re {e : Nat → Int} (ok : OkRows w r) (ho : Ord r.length ord) {a : Nat} {s : Int} (p : Pth r e a s) : Pth (reR ord r) e (ord.idxOf a) s := by
  induction p with
  | zero =>
    rw [ho.idx ho.head]
    exact .zero
  | step _ hw ih => exact .step ih (way_idx ok ho hw)
theorem Pth.un {e : Nat → Int} (ok : OkRows w r) (ho : Ord r.length ord) {i : Nat} {s : Int} (p : Pth (reR ord r) e i s) : Pth r e (nth ord i) s := by
  induction p with
  | zero =>
    rw [nth_zero ho]
    exact .zero
  | step _ hw ih => exact .step ih (way_re' ok ho hw)
theorem Bears.re {x : Hea} (ok : OkRows w r) (ho : Ord r.length ord) (h : Bears r x) : Bears (reR ord r) x := by
  obtain ⟨L, hL, he⟩ := h
  refine ⟨fun i => L (nth ord i), ⟨?_, fun i k j hw => hL.w _ _ _ (way_re' ok ho hw), fun i hi => ?_⟩, fun i k j hw => he _ _ _ (way_re' ok ho hw)⟩
  · show L (nth ord 0) = 0
    rw [nth_zero ho]
    exact hL.z
  · rw [reR_len, ho.len] at hi
    have := (hL.p _ (nth_rng ho hi)).re ok ho
    rwa [idx_nth ho hi] at this
theorem Bears.un {x : Hea} (ok : OkRows w r) (ho : Ord r.length ord) (h : Bears (reR ord r) x) : Bears r x := by
  obtain ⟨L, hL, he⟩ := h
  refine ⟨fun a => L (ord.idxOf a), ⟨?_, fun a k b hw => hL.w _ _ _ (way_idx ok ho hw), fun a ha => ?_⟩, fun a k b hw => he _ _ _ (way_idx ok ho hw)⟩
  · show L (ord.idxOf 0) = 0
    rw [ho.idx ho.head]
    exact hL.z
  · have := (hL.p (ord.idxOf a) (by rw [reR_len, ho.len]; exact idx_lt ho ha)).un ok ho
    rwa [nth_idx ho ha] at this
end
/-! ### sums over the ways -/
theorem zipIdx_pw {α : Type} (l : List α) : l.zipIdx.Pairwise fun p q => p.2 ≠ q.2 := by
  have h : (l.zipIdx.map Prod.snd).Nodup := by
    rw [List.zipIdx_map_snd]
    exact List.nodup_range'
  exact List.pairwise_map.mp h
theorem wayL_nodup (r : Rows') : (wayL r).Nodup := by
  unfold wayL
  rw [List.Nodup, List.pairwise_flatMap]
  refine ⟨fun p hp => ?_, ?_⟩
  · unfold wayOf
    rw [List.pairwise_filterMap]
    refine (zipIdx_pw _).imp fun {a b} hne x hx y hy e => hne ?_
    subst e
    simp only [Option.map_eq_some_iff] at hx hy
    obtain ⟨u, _, rfl⟩ := hx
    obtain ⟨v, _, e⟩ := hy
    have := congrArg (fun z : Nat × Nat × Nat => z.2.1) e
    exact this.symm
  · refine (zipIdx_pw _).imp fun {a b} hne x hx y hy e => hne ?_
    subst e
    unfold wayOf at hx hy
    rw [List.mem_filterMap] at hx hy
    obtain ⟨u, _, hu⟩ := hx
    obtain ⟨v, _, hv⟩ := hy
    simp only [Option.map_eq_some_iff] at hu hv
    obtain ⟨_, _, rfl⟩ := hu
    obtain ⟨_, _, e⟩ := hv
    have := congrArg (fun z : Nat × Nat × Nat => z.1) e
    exact this.symm
theorem sm_ways (r : Rows') (F : Nat × Nat × Nat → Int) : (sm (wayL r).length fun p => F (wy r p)) = ((wayL r).map F).sum := by
  have key : ∀ (l : List (Nat × Nat × Nat)) (n : Nat), n ≤ l.length → (sm n fun p => F (l.getD p (0, 0, 0))) = ((l.take n).map F).sum := by
    intro l n
    induction n with
    | zero => intro _; simp [sm]
    | succ n ih =>
      intro hn
      show sm n _ + F (l.getD n (0, 0, 0)) = _
      rw [ih (by omega), List.take_add_one, List.getD_eq_getElem?_getD, List.getElem?_eq_getElem (by omega : n < l.length)]
      simp only [List.map_append, List.sum_append, Option.toList_some, List.map_cons, List.map_nil, List.sum_cons, List.sum_nil, Option.getD_some]
      omega
  have := key (wayL r) _ (Nat.le_refl _)
  rw [List.take_length] at this
  exact this
theorem perm_sum {l l' : List Int} (h : l.Perm l') : l.sum = l'.sum := by
  induction h with
  | nil => rfl
  | cons x _ ih => rw [List.sum_cons, List.sum_cons, ih]
  | swap x y l => rw [List.sum_cons, List.sum_cons, List.sum_cons, List.sum_cons]; omega
  | trans _ _ h1 h2 => rw [h1, h2]
/-- a way of the reordered map, told in the first one -/
def bk (ord : List Nat) (v : Nat × Nat × Nat) : Nat × Nat × Nat := (nth ord v.1, v.2.1, nth ord v.2.2)
section
variable {r : Rows'} {w : Nat} {ord : List Nat}
theorem nth_inj (ho : Ord r.length ord) {i j : Nat} (hi : i < r.length) (hj : j < r.length) (h : nth ord i = nth ord j) : i = j := by
  rw [← idx_nth ho hi, ← idx_nth ho hj, h]
theorem way_in (ok : OkRows w r) (ho : Ord r.length ord) {v : Nat × Nat × Nat} (h : v ∈ wayL (reR ord r)) : v.1 < r.length ∧ v.2.2 < r.length ∧ way r (nth ord v.1) v.2.1 (nth ord v.2.2) := by
  have ok2 := ok.re ho
  have hw : way (reR ord r) v.1 v.2.1 v.2.2 := wayL_mem.mp h
  have h1 := (way_wid ok2.wid hw).1
  have h2 := ok2.rng _ _ _ hw
  rw [reR_len, ho.len] at h1 h2
  exact ⟨h1, h2, way_re' ok ho hw⟩
theorem ways_perm (ok : OkRows w r) (ho : Ord r.length ord) : ((wayL (reR ord r)).map (bk ord)).Perm (wayL r) := by
  refine (List.perm_ext_iff_of_nodup ?_ (wayL_nodup r)).mpr fun u => ?_
  · rw [List.Nodup, List.pairwise_map]
    refine List.Pairwise.imp_of_mem (fun {a b} ha hb hne e => hne ?_) (wayL_nodup (reR ord r))
    obtain ⟨a1, a2, _⟩ := way_in ok ho ha
    obtain ⟨b1, b2, _⟩ := way_in ok ho hb
    have e1 := nth_inj ho a1 b1 (congrArg (fun z : Nat × Nat × Nat => z.1) e)
    have e2 : a.2.1 = b.2.1 := by
      show (bk ord a).2.1 = (bk ord b).2.1
      rw [e]
    have e3 := nth_inj ho a2 b2 (congrArg (fun z : Nat × Nat × Nat => z.2.2) e)
    exact Prod.ext e1 (Prod.ext e2 e3)
  · rw [List.mem_map]
    constructor
    · rintro ⟨v, hv, rfl⟩
      exact wayL_mem.mpr (way_in ok ho hv).2.2
    · intro hu
      obtain ⟨a, k, b⟩ := u
      have hw := wayL_mem.mp hu
      refine ⟨(ord.idxOf a, k, ord.idxOf b), wayL_mem.mpr (way_idx ok ho hw), ?_⟩
      unfold bk
      rw [nth_idx ho (way_wid ok.wid hw).1, nth_idx ho (ok.rng _ _ _ hw)]
theorem sm_re (ok : OkRows w r) (ho : Ord r.length ord) (F F' : Nat × Nat × Nat → Int) (h : ∀ v ∈ wayL (reR ord r), F' v = F (bk ord v)) : (sm (wayL (reR ord r)).length fun p => F' (wy (reR ord r) p)) = sm (wayL r).length fun p => F (wy r p) := by
  rw [sm_ways, sm_ways, List.map_congr_left h, show (wayL (reR ord r)).map (fun v => F (bk ord v)) = ((wayL (reR ord r)).map (bk ord)).map F by rw [List.map_map]; rfl]
  exact perm_sum ((ways_perm ok ho).map F)
theorem net_re (ok : OkRows w r) (ho : Ord r.length ord) (G : Nat × Nat × Nat → Int) {i : Nat} (hi : i < r.length) : net (reR ord r) (fun p => G (bk ord (wy (reR ord r) p))) i = net r (fun p => G (wy r p)) (nth ord i) := by
  unfold net
  refine sm_re ok ho (fun u => G u * ((if nth ord i = u.2.2 then 1 else 0) - (if nth ord i = u.1 then 1 else 0))) (fun v => G (bk ord v) * ((if i = v.2.2 then 1 else 0) - (if i = v.1 then 1 else 0))) fun v hv => ?_
  obtain ⟨h1, h2, _⟩ := way_in ok ho hv
  have e1 : (i = v.2.2) ↔ (nth ord i = (bk ord v).2.2) := ⟨fun e => by rw [e]; rfl, fun e => nth_inj ho hi h2 e⟩
  have e2 : (i = v.1) ↔ (nth ord i = (bk ord v).1) := ⟨fun e => by rw [e]; rfl, fun e => nth_inj ho hi h1 e⟩
  simp only [e1, e2]
theorem dsm_re (ok : OkRows w r) (ho : Ord r.length ord) (G : Nat × Nat × Nat → Int) (k : Nat) : dsm (reR ord r) (fun p => G (bk ord (wy (reR ord r) p))) k = dsm r (fun p => G (wy r p)) k := by
  unfold dsm
  exact sm_re ok ho (fun u => G u * (if k = u.2.1 then 1 else 0)) (fun v => G (bk ord v) * (if k = v.2.1 then 1 else 0)) fun v _ => rfl
theorem hasW_re (ok : OkRows w r) (ho : Ord r.length ord) {k i : Nat} (hi : i < r.length) : hasW (reR ord r) k i = hasW r k (nth ord i) := by
  rw [Bool.eq_iff_iff, hasW_iff, hasW_iff]
  constructor
  · rintro ⟨j, h⟩
    exact ⟨_, way_re' ok ho h⟩
  · rintro ⟨b, h⟩
    have := way_idx ok ho h
    rw [idx_nth ho hi] at this
    exact ⟨_, this⟩
theorem sm_ord (ho : Ord r.length ord) (f : Nat → Int) : (sm r.length fun i => f (nth ord i)) = sm r.length f := by
  have key : ∀ (l : List Nat) (n : Nat), n ≤ l.length → (sm n fun p => f (nth l p)) = ((l.take n).map f).sum := by
    intro l n
    induction n with
    | zero => intro _; simp [sm]
    | succ n ih =>
      intro hn
      show sm n _ + f (nth l n) = _
      unfold nth
      unfold nth at ih
      rw [ih (by omega), List.take_add_one, List.getD_eq_getElem?_getD, List.getElem?_eq_getElem (by omega : n < l.length)]
      simp only [List.map_append, List.sum_append, Option.toList_some, List.map_cons, List.map_nil, List.sum_cons, List.sum_nil, Option.getD_some]
      omega
  have e1 := key ord r.length (by rw [ho.len]; exact Nat.le_refl _)
  have e2 := key (List.range r.length) r.length (by simp)
  rw [List.take_of_length_le (by rw [ho.len]; exact Nat.le_refl _)] at e1
  rw [List.take_of_length_le (by simp)] at e2
  rw [e1, perm_sum (ho.perm.map f), ← e2]
  refine Sx.sm_congr fun i hi => ?_
  unfold nth
  rw [List.getD_eq_getElem?_getD, List.getElem?_range hi]
  rfl
theorem Stp'.re (ok : OkRows w r) (ho : Ord r.length ord) {U : Int} {G : Nat × Nat × Nat → Int} {wt : Nat → Int} {k : Nat} {gone : List Int} (h : Stp' r w U (fun p => G (wy r p)) wt k gone) :
    Stp' (reR ord r) w U (fun p => G (bk ord (wy (reR ord r) p))) (fun i => wt (nth ord i)) k gone := by
  have hl : (reR ord r).length = r.length := by rw [reR_len, ho.len]
  refine ⟨⟨fun i hi => h.wts.nn _ (nth_rng ho (by omega)), fun i hi hno => ?_, ?_, fun i hi => ?_⟩, fun p hp => ?_, fun j hj => ?_⟩
  · rw [hasW_re ok ho (by omega)] at hno
    exact h.wts.out _ (nth_rng ho (by omega)) hno
  · rw [hl, sm_ord ho wt]
    exact h.wts.one
  · rw [net_re ok ho G (by omega), h.wts.room _ (nth_rng ho (by omega))]
    have e : (nth ord i = 0) ↔ (i = 0) := ⟨fun e => nth_inj ho (by omega) ok.pos (by rw [e, nth_zero ho]), fun e => by rw [e, nth_zero ho]⟩
    simp only [e]
  · have hv := List.mem_of_getElem? (wy_get hp)
    have hw := (way_in ok ho hv).2.2
    have hm : bk ord (wy (reR ord r) p) ∈ wayL r := wayL_mem.mpr hw
    obtain ⟨p0, h0⟩ := List.mem_iff_getElem?.mp hm
    have hlt := (List.getElem?_eq_some_iff.mp h0).1
    have := h.nn p0 hlt
    have e := wy_get hlt
    rw [h0] at e
    rw [Option.some.inj e]
    exact this
  · rw [dsm_re ok ho G j]
    exact h.deed j hj
theorem Bhd.re (ok : OkRows w r) (ho : Ord r.length ord) {x : Hea} {k : Nat} {gone : List Int} (h : Bhd r w x k gone) : Bhd (reR ord r) w x k gone := ⟨h.t, h.l, h.s0, h.t0, h.l0, h.bears.re ok ho, h.lt⟩
theorem Bhd.un (ok : OkRows w r) (ho : Ord r.length ord) {x : Hea} {k : Nat} {gone : List Int} (h : Bhd (reR ord r) w x k gone) : Bhd r w x k gone := ⟨h.t, h.l, h.s0, h.t0, h.l0, h.bears.un ok ho, h.lt⟩
end
end Y
end Mir

/-! Mir: dicts made of lists of pairs. -/
namespace Mir
namespace Y
open PySem PySem.Spec PyProof.Rows L2 Mir
section
variable {m : Mem} {r : Rows'} {w : Nat} {ord : List Nat}
end
end Y
end Mir

/-! Mir: the other family of drawing functions. -/
namespace Mir
namespace V
open PySem PySem.Spec PyProof.Rows L2 Mir Mir.Y
/-- letters, one to six of them -/
structure Wd' (x : Str) : Prop where
  lo : 1 ≤ x.length
  hi : x.length ≤ 6
  let' : ∀ c ∈ x.cps.toList, c ∈ letL
end V
end Mir

/-! Mir: the other family: walks, yards, maps. -/
namespace Mir
namespace V
open PySem PySem.Spec PyProof.Rows L2 Mir Mir.Y
section
variable {m : Mem} {i j w n : Nat} {P : D → Mem → Prop} {N : Env' → Mem → Prop} {e1 e2 : Option D}
end
end V
end Mir

/-! Mir: two yards, put together. -/
namespace Mir
namespace V
open PySem PySem.Spec PyProof.Rows L2 Mir Mir.Y
end V
end Mir

/-! Mir: yards put together. -/
namespace Mir
namespace V
open PySem PySem.Spec PyProof.Rows L2 Mir Mir.Y
@[simp] theorem ap_sortSet (al : Bool) (e : EM) (η : Env') (m : Mem) : mSortSet al e η m = (e η m).bind fun d m1 => sortSetR al m1 ((lstOf m1 d).bind (mapO strOf)) := nr rfl
theorem sortSet_lst {xs : List Str} {m : Mem} (h : xs.length < 64) : sortSetR false m ((lstOf m (.lst (xs.map .str))).bind (mapO strOf)) = .ok (.lst ((sortS (unlS xs)).map .str)) m := by
  have e : (lstOf m (.lst (xs.map .str))).bind (mapO strOf) = some xs := mapO_strO xs
  rw [e]
  unfold sortSetR
  simp only
  rw [if_pos h]
  rfl
/-- the names of both -/
def namesU (a b : List Str) : List Str := sortS (unlS (a ++ b))
theorem bList_f {xs : List Str} {m : Mem} : bList false [sT xs] m = .ok (.lst (xs.map .str)) m := by
  unfold sT
  simp
theorem names_in_eq {a b : List Str} {d e : D} {m : Mem} (hd : ∀ m, gIx d (.int 0) m = .ok (sT a) m) (he : ∀ m, gIx e (.int 0) m = .ok (sT b) m) (hl : a.length + b.length < 64) : m_names_in [d, e] m = .ok (.lst ((namesU a b).map .str)) m := by
  have key : Tri (m_names_in [d, e] m) (fun z m' => z = .lst ((namesU a b).map .str) ∧ m' = m) := by
    refine tri_fn rfl ?_
    have cc : gAdd false (.lst (a.map .str)) (.lst (b.map .str)) m = .ok (.lst ((a ++ b).map .str)) m := by
      rw [cat_own (own_lst _ _) (own_lst _ _) (by simp; omega), List.map_append]
    have ss := sortSet_lst (m := m) (xs := a ++ b) (by simp; omega)
    simp [b_names_in, hd, he, bList_f, cc, ss, -List.map_append]
    rfl
  obtain ⟨z, m', e, rfl, rfl⟩ := key.ex
  exact e
end V
end Mir

/-! Mir: maps put together: pairs of rooms as they come up. -/
namespace Mir
namespace V
open PySem PySem.Spec PyProof.Rows L2 Mir Mir.Y
/-- where a deed leads: the room itself where the map hasn't the deed -/
def ledP (c : Cha) (a : Nat) (x : Str) : Option Nat := if x ∈ c.n then oAt (rAt c.r a) (ixS c.n x) else some a
/-- pairs of rooms of both maps, each once -/
def OkOrd (c d : Cha) (ord : List (Nat × Nat)) : Prop := ord.Nodup ∧ ∀ p ∈ ord, p.1 < c.r.length ∧ p.2 < d.r.length
theorem OkOrd.len {c d : Cha} {ord : List (Nat × Nat)} (h : OkOrd c d ord) : ord.length ≤ c.r.length * d.r.length := by
  have nd : (ord.map fun p => p.1 * d.r.length + p.2).Nodup := by
    show List.Pairwise _ _
    rw [List.pairwise_map]
    refine List.Pairwise.imp_of_mem (fun {p q} hp hq hne e => hne ?_) h.1
    have h1 := (h.2 p hp).2
    have h2 := (h.2 q hq).2
    have e1 : (p.1 * d.r.length + p.2) % d.r.length = p.2 := by rw [Nat.mul_comm, Nat.mul_add_mod, Nat.mod_eq_of_lt h1]
    have e2 : (q.1 * d.r.length + q.2) % d.r.length = q.2 := by rw [Nat.mul_comm, Nat.mul_add_mod, Nat.mod_eq_of_lt h2]
    have e3 : p.2 = q.2 := by rw [← e1, ← e2, e]
    have e4 : p.1 * d.r.length = q.1 * d.r.length := by omega
    have e5 := Nat.eq_of_mul_eq_mul_right (by omega) e4
    exact Prod.ext e5 e3
  have := nodup_len (c.r.length * d.r.length) _ nd (fun a ha => by
    obtain ⟨p, hp, rfl⟩ := List.mem_map.mp ha
    obtain ⟨h1, h2⟩ := h.2 p hp
    calc p.1 * d.r.length + p.2 < p.1 * d.r.length + d.r.length := by omega
      _ = (p.1 + 1) * d.r.length := by rw [Nat.add_mul]; omega
      _ ≤ c.r.length * d.r.length := Nat.mul_le_mul_right _ h1)
  simpa using this
section
variable {m : Mem} {c d : Cha} {P : D → Mem → Prop}
end
end V
end Mir

/-! Mir: the map of two maps. -/
namespace Mir
namespace V
open PySem PySem.Spec PyProof.Rows L2 Mir Mir.Y
section
variable {m : Mem} {c d : Cha} {P : D → Mem → Prop}
end
end V
end Mir

/-! Mir: the walk of the yard of both is the map of both their maps. -/
namespace Mir
namespace V
open PySem PySem.Spec PyProof.Rows L2 Mir Mir.Y
theorem led_len' {hs : List Hea} {st : List Int} {k : Nat} (h : st.length = hs.length) : (ledL hs st k).length = hs.length := by unfold ledL; simp [h]
theorem led_nn {hs : List Hea} {st : List Int} {k : Nat} (hl : ∀ x ∈ hs, ∀ k, 0 ≤ lk x k) (ht : thereB hs st k = true) : ∀ v ∈ ledL hs st k, 0 ≤ v := fun v hv => by
  unfold ledL at hv
  obtain ⟨p, hp, rfl⟩ := List.mem_map.mp hv
  unfold thereB at ht
  have h1 := List.all_eq_true.mp ht p hp
  have h2 := hl p.2 (List.of_mem_zip hp).2 k
  simp at h1
  omega
/-- stands of a walk: as many counts as heaps, none below nought -/
theorem wk_nn {hs : List Hea} {sts : List (List Int)} {rows : Rows'} (wk : Wk hs (hs.map Hea.s) sts rows) (h0 : ∀ x ∈ hs, 0 ≤ x.s) (hl : ∀ x ∈ hs, ∀ k, 0 ≤ lk x k) : ∀ (n b : Nat) (st : List Int), b ≤ n → sts[b]? = some st → st.length = hs.length ∧ ∀ v ∈ st, 0 ≤ v := by
  intro n
  induction n with
  | zero =>
    intro b st hb he
    have : b = 0 := by omega
    subst this
    rw [wk.st0] at he
    cases he
    refine ⟨by simp, fun v hv => ?_⟩
    obtain ⟨x, hx, rfl⟩ := List.mem_map.mp hv
    exact h0 x hx
  | succ n ih =>
    intro b st hb he
    rcases wk.com b (List.getElem?_eq_some_iff.mp he).1 with rfl | ⟨a, k, hab, x, h1, h2⟩
    · exact ih 0 st (by omega) he
    · obtain ⟨s, e1, _, e3⟩ := wk.row a k x _ h1 h2
      obtain ⟨t1, t2⟩ := e3 b rfl
      rw [he] at t2
      cases t2
      obtain ⟨l1, _⟩ := ih a s (by omega) e1
      exact ⟨led_len' l1, led_nn hl t1⟩
/-- a yard whose walk is whole and does each deed -/
structure Full (y : Yar) (most : Nat) (S : List (List Int)) (R : Rows') : Prop where
  walk : walkY y most = (S, R)
  fin : R.length = S.length
  fit : Fit y.d.length y.h
  s0 : ∀ x ∈ y.h, 0 ≤ x.s
  lay : ∀ x ∈ y.h, ∀ k, 0 ≤ lk x k
  all : ∀ k, k < y.d.length → ∃ a b, way R a k b
variable {y z : Yar} {most : Nat} {S S1 S2 : List (List Int)} {R R1 R2 : Rows'}
theorem Full.wk (f : Full y most S R) : Wk y.h (y.h.map Hea.s) S R := by
  have := (walkY_wk y most).wk
  rw [f.walk] at this
  exact this
theorem Full.wid (f : Full y most S R) : ∀ x ∈ R, x.length = y.d.length := by
  have := (walkY_wk y most).wid
  rw [f.walk] at this
  exact this
theorem Full.rng (f : Full y most S R) : ∀ a k b, way R a k b → b < R.length := fun a k b ⟨x, h1, h2⟩ => by
  obtain ⟨s, _, _, e3⟩ := f.wk.row a k x _ h1 h2
  rw [f.fin]
  exact (List.getElem?_eq_some_iff.mp (e3 b rfl).2).1
theorem Full.pos (f : Full y most S R) : 0 < R.length := by
  rw [f.fin]
  exact (List.getElem?_eq_some_iff.mp f.wk.st0).1
theorem Full.at' (f : Full y most S R) {a : Nat} (ha : a < R.length) : S[a]? = some (stA S a) := by
  unfold Y.stA
  rw [List.getD_eq_getElem?_getD, List.getElem?_eq_getElem (by rw [← f.fin]; exact ha)]
  rfl
theorem Full.nn (f : Full y most S R) {a : Nat} (ha : a < R.length) : (stA S a).length = y.h.length ∧ ∀ v ∈ stA S a, 0 ≤ v := wk_nn f.wk f.s0 f.lay a a _ (Nat.le_refl _) (f.at' ha)
theorem Full.inj (f : Full y most S R) {a b : Nat} (ha : a < R.length) (hb : b < R.length) (e : stA S a = stA S b) : a = b := by
  have h1 := f.at' ha
  have h2 := f.at' hb
  rw [e, ← h2] at h1
  exact (List.getElem?_inj (by rw [← f.fin]; exact ha) f.wk.nd).mp h1
/-- what a name does at a room of the walk -/
theorem Full.led (f : Full y most S R) {a : Nat} (ha : a < R.length) {x : Str} (hx : x ∈ y.d) : thereB y.h (stA S a) (ixS y.d x) = (ledP ⟨y.d, R⟩ a x).isSome ∧ ∀ b, ledP ⟨y.d, R⟩ a x = some b → ledL y.h (stA S a) (ixS y.d x) = stA S b ∧ b < R.length := by
  have hk := (ixS_ok hx).2.1
  have hr : R[a]? = some (rAt R a) := rAt_some ha
  have hl : (rAt R a).length = y.d.length := f.wid _ (rAt_mem ha)
  have ho := oAt_get (x := rAt R a) (k := ixS y.d x) (by omega)
  obtain ⟨st, e1, e2, e3⟩ := f.wk.row a _ _ _ hr ho
  rw [f.at' ha] at e1
  cases e1
  have el : ledP ⟨y.d, R⟩ a x = oAt (rAt R a) (ixS y.d x) := by unfold ledP; rw [if_pos hx]
  rw [el]
  cases hq : oAt (rAt R a) (ixS y.d x) with
  | none => exact ⟨e2 hq, fun b e => by cases e⟩
  | some b =>
    obtain ⟨t1, t2⟩ := e3 b hq
    refine ⟨t1, fun b' e => ?_⟩
    cases e
    have hb : b < R.length := by rw [f.fin]; exact (List.getElem?_eq_some_iff.mp t2).1
    rw [f.at' hb] at t2
    exact ⟨(Option.some.inj t2).symm, hb⟩
end V
end Mir

/-! Mir: a yard with the deeds alone that are done. -/
namespace Mir
namespace V
open PySem PySem.Spec PyProof.Rows L2 Mir Mir.Y
end V
end Mir

/-! Mir: what lies behind a row: the yard's stand, the map's room. -/
namespace Mir
namespace V
open PySem PySem.Spec PyProof.Rows L2 Mir Mir.Y
open Sx (sm)
/-! ### the stand behind a row -/
/-! ### where a name leads in a map -/
section
variable {m : Mem} {c : Cha}
end
/-! ### the told map of a yard's walk -/
section
variable {ns : List Str} {hs : List Hea} {S : List (List Int)} {R : Rows'}
end
/-! ### rows of deeds by their numbers -/
end V
end Mir

/-! Mir: maps that are let by (look_map). -/
namespace Mir
namespace V
open PySem PySem.Spec PyProof.Rows L2 Mir Mir.Y
section
variable {m : Mem} {P : D → Mem → Prop}
theorem loopE_map {α : Type} (f : α → D) (c : Int) (xs : List α) (g : GM) (body : SM) (η : Env') (m : Mem) : mLoop (srcE c (rdS1 (.tup (xs.map f)))) g body xs.length 0 η m = forD g body (enumD c (xs.map f)) η m := by
  have := loopE_t η m g body (xs.map f) c
  rw [List.length_map] at this
  exact this
theorem all_trues {α : Type} (xs : List α) (m : Mem) : bAll (fun bs => bs.all id) [.lst (xs.map fun _ => D.bl true)] m = .ok (.bl true) m := by
  have e4 : xs.map (fun _ => D.bl true) = (xs.map fun _ => true).map .bl := by rw [List.map_map]; rfl
  rw [e4, bAll_bls]
  have : (xs.map fun _ => true).all id = true := by simp
  rw [this]
theorem are_texts_eq {ns : List Str} (hl : ns.length ≤ 900) : m_are_texts [sT ns] m = .ok (.bl true) m := by
  have key : Tri (m_are_texts [sT ns] m) (fun d m' => d = .bl true ∧ m' = m) := by
    refine tri_fn rfl ?_
    have ty : isTy "tuple" m (.tup (ns.map .str)) = true := rfl
    simp [b_are_texts, sT]
    refine tri_map D.str (fun _ => D.bl true) ns (fun x _ => ⟨_, rfl, rfl, by simp [wipeE]⟩) (by omega) ?_
    simp only [mkL_f, tri_ok, all_trues]
    exact ⟨trivial, trivial⟩
  obtain ⟨d, m', e, rfl, rfl⟩ := key.ex
  exact e
theorem is_whole_eq (b : Int) : m_is_whole [.int b] m = .ok (.bl true) m := by
  have key : Tri (m_is_whole [.int b] m) (fun d m' => d = .bl true ∧ m' = m) := by
    refine tri_fn rfl ?_
    simp [b_is_whole]
  obtain ⟨d, m', e, rfl, rfl⟩ := key.ex
  exact e
theorem is_room_eq {x : List (Option Nat)} {n : Nat} (hx : x.length = n) (hn : n ≤ 900) : m_is_room [rowD x, .int (n : Nat)] m = .ok (.bl true) m := by
  have key : Tri (m_is_room [rowD x, .int (n : Nat)] m) (fun d m' => d = .bl true ∧ m' = m) := by
    refine tri_fn rfl ?_
    simp [b_is_room, rowD, hx, b_is_room_s1]
    refine tri_map oD (fun _ => D.bl true) x (fun o _ => ⟨_, rfl, rfl, ?_⟩) (by omega) ?_
    · cases o with
      | none => simp [wipeE, oD]
      | some b => simp [wipeE, oD, is_whole_eq]
    · simp only [mkL_f, tri_ok, all_trues]
      exact ⟨trivial, trivial⟩
  obtain ⟨d, m', e, rfl, rfl⟩ := key.ex
  exact e
theorem has_form_eq {c : Cha} (ok : OkCha c) (hn : c.r.length ≤ 900) (hd : c.n.length ≤ 900) : m_has_form [chaD c] m = .ok (.bl true) m := by
  have key : Tri (m_has_form [chaD c] m) (fun d m' => d = .bl true ∧ m' = m) := by
    refine tri_fn rfl ?_
    have ec : chaD c = .tup [sT c.n, .tup (c.r.map rowD)] := rfl
    have ll : ∀ m, bLen [sT c.n] m = .ok (.int (c.n.length : Nat)) m := fun m => by unfold sT; simp
    have pos := ok.rows.pos
    have ne : ¬ c.r = [] := fun e => by rw [e] at pos; exact absurd pos (by simp)
    simp [b_has_form, ec, are_texts_eq hd, b_has_form_s1, b_has_form_s2, b_has_form_s3, ne]
    refine tri_map rowD (fun _ => D.bl true) c.r (fun x hx => ⟨_, rfl, rfl, by simp [wipeE, ll, is_room_eq (ok.rows.wid x hx) hd]⟩) (by omega) ?_
    simp only [mkL_f, tri_ok, all_trues]
    exact ⟨trivial, trivial⟩
  obtain ⟨d, m', e, rfl, rfl⟩ := key.ex
  exact e
end
end V
end Mir

/-! Mir: maps as texts, and texts of maps read. -/
namespace Mir
namespace V
open PySem PySem.Spec PyProof.Rows L2 Mir Mir.Y
open NumText
def figL : List Nat := [48, 49, 50, 51, 52, 53, 54, 55, 56, 57]
theorem fig_S : Str.ofString "0123456789" = SX.S figL := by decide +kernel
theorem zero_S : Str.ofString "0" = SX.S [48] := by decide +kernel
theorem minus_S : Str.ofString "-" = SX.S [45] := by decide +kernel
theorem fig_mem (c : Nat) : c ∈ figL ↔ 48 ≤ c ∧ c ≤ 57 := by
  unfold figL
  simp only [List.mem_cons, List.not_mem_nil, or_false]
  omega
def figB (d : List Nat) (k : Int) : Bool := decide (1 ≤ (d.length : Int)) && decide ((d.length : Int) ≤ k) && d.all (fun c => decide (c ∈ figL)) && (decide (d = [48]) || !decide (d.head? = some 48))
theorem all_digits {d : List Nat} (h : d.all (fun c => decide (c ∈ figL)) = true) : AllDigits d := fun c hc => (fig_mem c).mp (by simpa using List.all_eq_true.mp h c hc)
theorem is_figures_eq {m : Mem} {d : List Nat} {k : Int} (h : d.length ≤ 20000) : m_is_figures [.str (SX.S d), .int k] m = .ok (.bl (figB d k)) m := by
  have key : Tri (m_is_figures [.str (SX.S d), .int k] m) (fun r m' => r = .bl (figB d k) ∧ m' = m) := by
    refine tri_fn rfl ?_
    simp [b_is_figures, bLen_str (show (SX.S d).length ≤ 1000000 by rw [SX.S_len]; omega)]
    rw [comp_map (fun x => D.bl (decide (sgn x ∈ figL))) (chD (SX.S d)) [] (fun x hx => by
      obtain ⟨c, _, rfl⟩ := mem_chD hx
      refine ⟨_, rfl, rfl, ?_⟩
      simp [wipeE, gd_FIGURES, fig_S, sgn]) (by rw [chD_length, SX.S_len]; exact size_le (by simp; omega))]
    rw [chD_map (SX.S d) (fun c => D.bl (decide (c ∈ figL)))]
    have hm := mapO_bools (d.map fun c => decide (c ∈ figL))
    rw [List.map_map] at hm
    simp only [Function.comp_def] at hm
    simp [bAll, lstOf, hm, b_is_figures_s1, zero_S]
    unfold figB
    by_cases h1 : (1 : Int) ≤ d.length
    · by_cases h2 : (d.length : Int) ≤ k
      · by_cases h3 : ∀ x, x ∈ d → x ∈ figL
        · simp [h1, h2, h3]
          obtain ⟨c, r, rfl⟩ : ∃ c r, d = c :: r := by
            cases d with
            | nil => simp at h1
            | cons c r => exact ⟨c, r, rfl⟩
          have h3' : (c ∈ figL ∧ ∀ x ∈ r, x ∈ figL) := by simpa using h3
          rw [gIx_S0 c r m (by simp at h; omega)]
          have e1 : (SX.S [c] : Str) = ⟨#[c]⟩ := rfl
          simp [← e1]
          by_cases hc : c = 48
          · by_cases hr : r = []
            · simp [hc, hr]
            · simp [hc, hr, h3'.2]
          · simp [hc, h3'.1, h3'.2]
        · have : d.all (fun c => decide (c ∈ figL)) = false := by
            rw [List.all_eq_false]
            simp at h3 ⊢
            exact h3
          simp [h1, h2, h3, this]
      · simp [h1, h2]
    · simp [h1]
  obtain ⟨r, m', e, rfl, rfl⟩ := key.ex
  exact e
/-- the number that a text writes -/
def numB (l : List Nat) (k : Int) : D :=
  if l.take 1 = [45] then (if figB l.tail k = true ∧ l.tail ≠ [48] then .int (0 - (digitsVal l.tail : Nat)) else .non)
  else if figB l k = true then .int (digitsVal l : Nat) else .non
theorem figB_ok {d : List Nat} {k : Int} (h : figB d k = true) : AllDigits d ∧ d ≠ [] := by
  unfold figB at h
  simp only [Bool.and_eq_true, decide_eq_true_eq] at h
  refine ⟨all_digits h.1.2, fun e => ?_⟩
  have := h.1.1.1
  rw [e] at this
  simp at this
theorem figB_len {d : List Nat} {k : Int} (h : figB d k = true) : (d.length : Int) ≤ k := by
  unfold figB at h
  simp only [Bool.and_eq_true, decide_eq_true_eq] at h
  exact h.1.1.2
theorem number_of_big {m : Mem} {l : List Nat} {k : Int} (h : l.length ≤ 20000) (hk : k ≤ 600) : m_number_of [.str (SX.S l), .int k] m = .ok (numB l k) m := by
  have key : Tri (m_number_of [.str (SX.S l), .int k] m) (fun r m' => r = numB l k ∧ m' = m) := by
    refine tri_fn rfl ?_
    have sl : ∀ lo hi m, gSl false (.str (SX.S l)) lo hi m = .ok (.str (cutS (SX.S l) lo hi)) m := fun lo hi m => gSl_str (by rw [SX.S_len]; omega)
    simp [b_number_of, sl, cut_head, minus_S, b_number_of_s1]
    by_cases hm : l.take 1 = [45]
    · simp [hm, sl, cut_tail, b_number_of_s2]
      have hd : l.tail.length ≤ 20000 := by rw [List.length_tail]; omega
      rw [is_figures_eq hd]
      simp [zero_S]
      by_cases hf : figB l.tail k = true
      · obtain ⟨h1, h2⟩ := figB_ok hf
        have hlen := figB_len hf
        simp [hf, b_number_of_s3]
        by_cases h0 : l.tail = [48]
        · simp [h0, numB, hm]
        · simp [h0, bInt_digits (m := m) h1 h2 (by omega), numB, hm, hf]
      · simp [hf, numB, hm]
    · simp [hm, b_number_of_s2]
      rw [is_figures_eq h]
      simp
      by_cases hf : figB l k = true
      · obtain ⟨h1, h2⟩ := figB_ok hf
        have hlen := figB_len hf
        simp [hf, b_number_of_s3, b_number_of_s4, bInt_digits (m := m) h1 h2 (by omega), numB, hm]
      · simp [hf, numB, hm]
  obtain ⟨r, m', e, rfl, rfl⟩ := key.ex
  exact e

/-! ### where a deed leads, as a text -/
theorem num_S (n : Nat) : Str.ofString (toString ((n : Nat) : Int)) = SX.S (TL.numL n) := TL.ext_tl (TL.tl_num n)
def goalS : Option Nat → Str
  | none => SX.S [45]
  | some b => SX.S (TL.numL b)
theorem numL_head : ∀ n : Nat, TL.numL n = [48] ∨ ∃ c r, TL.numL n = c :: r ∧ c ≠ 48 := fun n => by
  induction n using Nat.strongRecOn with
  | _ n ih =>
    by_cases h : n < 10
    · rw [TL.numL_lt h]
      by_cases h0 : n = 0
      · subst h0; exact .inl rfl
      · exact .inr ⟨_, _, rfl, by omega⟩
    · rw [TL.numL_step (by omega)]
      rcases ih (n / 10) (by omega) with e | ⟨c, r, e, hc⟩
      · exfalso
        have := TL.numL_val (n / 10)
        rw [e] at this
        have h1 : digitsVal [48] = 0 := rfl
        rw [h1] at this
        omega
      · rw [e]
        exact .inr ⟨c, r ++ [48 + n % 10], rfl, hc⟩
theorem fig_num {b : Nat} (hb : b < 1000) : figB (TL.numL b) 3 = true := by
  have h1 := TL.numL_len (n := b) (k := 3) (by decide) (by omega)
  have h2 := TL.numL_ne b
  have h3 := TL.numL_digits b
  have hp : 0 < (TL.numL b).length := List.length_pos_iff.mpr h2
  unfold figB
  have e1 : decide (1 ≤ ((TL.numL b).length : Int)) = true := decide_eq_true (by omega)
  have e2 : decide (((TL.numL b).length : Int) ≤ 3) = true := decide_eq_true (by omega)
  have e3 : (TL.numL b).all (fun c => decide (c ∈ figL)) = true := List.all_eq_true.mpr fun c hc => decide_eq_true ((fig_mem c).mpr (h3 c hc))
  rw [e1, e2, e3]
  rcases numL_head b with e | ⟨c, r, e, hc⟩
  · rw [e]; rfl
  · rw [e]
    simp [hc]
section
variable {m : Mem} {P : D → Mem → Prop}
end
/-! ### joined texts -/
theorem joinL_free {s : Nat} {S : List Nat} (hs : s ∉ S) : ∀ {ps : List (List Nat)}, (∀ p ∈ ps, s ∉ p) → s ∉ TL.joinL S ps
  | [], _ => by simp [TL.joinL]
  | [p], h => by
    show s ∉ p
    exact h p (by simp)
  | p :: q :: r, h => by
    show s ∉ p ++ (S ++ TL.joinL S (q :: r))
    rw [List.mem_append, List.mem_append]
    rintro (a | a | a)
    · exact h p (by simp) a
    · exact hs a
    · exact joinL_free hs (fun z hz => h z (List.mem_cons_of_mem _ hz)) a
theorem joinL_len {S : List Nat} {B : Nat} : ∀ {ps : List (List Nat)}, (∀ p ∈ ps, p.length ≤ B) → (TL.joinL S ps).length ≤ ps.length * (B + S.length)
  | [], _ => by simp [TL.joinL]
  | [p], h => by
    show p.length ≤ _
    have := h p (by simp)
    simp
    omega
  | p :: q :: r, h => by
    show (p ++ (S ++ TL.joinL S (q :: r))).length ≤ _
    have h1 := h p (by simp)
    have h2 := joinL_len (S := S) (ps := q :: r) fun z hz => h z (List.mem_cons_of_mem _ hz)
    rw [List.length_append, List.length_append, List.length_cons, Nat.succ_mul]
    omega
def sp : Str := Str.ofString " "
def nl : Str := Str.ofString "\n"
theorem tl_sp : TL.tl sp = [32] := by decide +kernel
theorem tl_nl : TL.tl nl = [10] := by decide +kernel
def wordsS (c : Cha) : List (List Str) := (Str.ofString "deeds" :: c.n) :: c.r.map fun x => Str.ofString "room" :: x.map goalS
def lineS (ws : List Str) : Str := Txt.join sp ws
/-- a word of a text: short, no blanks, no ends of lines -/
structure Wrd (x : Str) : Prop where
  len : x.length ≤ 6
  b : 32 ∉ TL.tl x
  n : 10 ∉ TL.tl x
theorem wrd_nm {x : Str} (h : Nm x) : Wrd x := by
  refine ⟨h.hi, fun hm => ?_, fun hm => ?_⟩
  · have := h.let' 32 hm
    revert this; decide
  · have := h.let' 10 hm
    revert this; decide
theorem wrd_goal {o : Option Nat} (h : ∀ b, o = some b → b < 1000) : Wrd (goalS o) := by
  cases o with
  | none => exact ⟨by decide, by decide, by decide⟩
  | some b =>
    have hl := TL.numL_len (n := b) (k := 3) (by decide) (by have := h b rfl; omega)
    refine ⟨?_, TL.numL_free (by decide), TL.numL_free (by decide)⟩
    show (TL.numL b).length ≤ 6
    omega
theorem wrd_deeds : Wrd (Str.ofString "deeds") := ⟨by decide +kernel, by decide +kernel, by decide +kernel⟩
theorem wrd_room : Wrd (Str.ofString "room") := ⟨by decide +kernel, by decide +kernel, by decide +kernel⟩
theorem tl_line (ws : List Str) : TL.tl (lineS ws) = TL.joinL [32] (ws.map TL.tl) := by
  unfold lineS
  rw [TL.join_eq, TL.tl_join, tl_sp]
theorem line_free {ws : List Str} (h : ∀ x ∈ ws, Wrd x) : 10 ∉ TL.tl (lineS ws) := by
  rw [tl_line]
  refine joinL_free (by decide) fun p hp => ?_
  obtain ⟨x, hx, rfl⟩ := List.mem_map.mp hp
  exact (h x hx).n
theorem sum_len {xs : List Str} {B : Nat} (h : ∀ x ∈ xs, x.length ≤ B) : (xs.map fun x : Str => x.length).sum ≤ xs.length * B := by
  induction xs with
  | nil => simp
  | cons x r ih =>
    have h1 := h x (by simp)
    have h2 := ih fun z hz => h z (List.mem_cons_of_mem _ hz)
    rw [List.map_cons, List.sum_cons, List.length_cons, Nat.succ_mul]
    omega
theorem join_eq {m : Mem} {d : D} {a : Str} {xs : List Str} (hd : seqOf m d = some (xs.map .str)) (hl : (xs.map fun x : Str => x.length).sum + xs.length * a.length ≤ 16777216) : gJoin (.str a) [d] m = .ok (.str (Txt.join a xs)) m := by
  have e : (seqOf m d).bind (mapO strOf) = some xs := by
    rw [hd]
    show mapO strOf (xs.map .str) = _
    have := mapO_map (f := strOf) (g := D.str) (h := id) (fun _ => rfl) xs
    rw [List.map_id] at this
    exact this
  show (match (seqOf m d).bind (mapO strOf) with
    | some ys => if (ys.map fun x : Str => x.length).sum + ys.length * a.length ≤ 16777216 then R.ok (D.str (Txt.join a ys)) m else .stk
    | none => .stk) = _
  rw [e]
  exact if_pos hl
/-- a map that is written -/
structure Wri (c : Cha) : Prop where
  ok : OkCha c
  hn : c.r.length ≤ 900
  hd : c.n.length ≤ 20
theorem Wri.wrd {c : Cha} (w : Wri c) : ∀ l ∈ wordsS c, (∀ x ∈ l, Wrd x) ∧ l.length ≤ 21 ∧ l ≠ [] := fun l hl => by
  have hd := w.hd
  rcases List.mem_cons.mp hl with rfl | hl
  · refine ⟨fun x hx => ?_, by simp; omega, by simp⟩
    rcases List.mem_cons.mp hx with rfl | hx
    · exact wrd_deeds
    · exact wrd_nm (w.ok.nms.nm x hx)
  · obtain ⟨y, hy, rfl⟩ := List.mem_map.mp hl
    refine ⟨fun x hx => ?_, by simp [w.ok.rows.wid y hy]; omega, by simp⟩
    rcases List.mem_cons.mp hx with rfl | hx
    · exact wrd_room
    · obtain ⟨o, ho, rfl⟩ := List.mem_map.mp hx
      refine wrd_goal fun b e => ?_
      subst e
      obtain ⟨a, ha⟩ := List.mem_iff_getElem?.mp hy
      obtain ⟨k, hk⟩ := List.mem_iff_getElem?.mp ho
      have := w.ok.rows.rng a k b ⟨y, ha, hk⟩
      have := w.hn
      omega
theorem Wri.lt {c : Cha} (w : Wri c) {x : List (Option Nat)} (hx : x ∈ c.r) {o : Option Nat} (ho : o ∈ x) : ∀ b, o = some b → b < 1000 := fun b e => by
  subst e
  obtain ⟨a, ha⟩ := List.mem_iff_getElem?.mp hx
  obtain ⟨k, hk⟩ := List.mem_iff_getElem?.mp ho
  have := w.ok.rows.rng a k b ⟨x, ha, hk⟩
  have := w.hn
  omega
end V
end Mir

/-! Mir: maps written and read. -/
namespace Mir
namespace V
open PySem PySem.Spec PyProof.Rows L2 Mir Mir.Y
section
variable {m : Mem} {P : D → Mem → Prop} {c : Cha}
def wsD (ws : List Str) : D := .lst (ws.map .str)
theorem wsD_seq (ws : List Str) (m : Mem) : seqOf m (wsD ws) = some (ws.map .str) := rfl
end
end V
end Mir

namespace Mir
namespace V
open PySem PySem.Spec PyProof.Rows L2 Mir Mir.Y
section
variable {m : Mem} {P : D → Mem → Prop} {c : Cha}
theorem split_eq {a b : Str} {xs : List Str} (hb : (b.length == 0) = false) (ha : a.length ≤ 900000) (h : Txt.split a b = xs) : gSplit false (.str a) [.str b] m = .ok (wsD xs) m := by
  show (if (b.length == 0) = false ∧ a.length + 2 ≤ sizeLine then mkL false ((Txt.split a b).map .str) m else .stk) = _
  rw [if_pos ⟨hb, size_le (by omega)⟩, h]
  rfl
end
end V
end Mir

/-! exceptions: reasoning with the mirrors of what may raise -/
namespace Mir
open PySem PySem.Spec PyProof.Rows L2
def TriX {α : Type} (r : R α) (P : α → Mem → Prop) (Ex : Exn → Mem → Prop) : Prop := match r with
  | .ok a m => P a m
  | .exc x m => Ex x m
  | .stk => False
section
variable {α β : Type} (P : α → Mem → Prop) (Ex : Exn → Mem → Prop)
@[simp] theorem trix_ok (a : α) (m : Mem) : TriX (.ok a m) P Ex = P a m := nr rfl
@[simp] theorem trix_stk : TriX (.stk : R α) P Ex = False := nr rfl
@[simp] theorem trix_exc (x : Exn) (m : Mem) : TriX (.exc x m : R α) P Ex = Ex x m := nr rfl
@[simp] theorem trix_bind (r : R β) (f : β → Mem → R α) : TriX (r.bind f) P Ex = TriX r (fun a m => TriX (f a m) P Ex) Ex := by cases r <;> rfl
@[simp] theorem trix_noX (r : R α) : TriX (noX r) P Ex = Tri r P := by cases r <;> rfl
@[simp] theorem trix_ite {c : Prop} [Decidable c] (a b : R α) : TriX (if c then a else b) P Ex = if c then TriX a P Ex else TriX b P Ex := by split <;> rfl
end
theorem Tri.x {α : Type} {r : R α} {P : α → Mem → Prop} {Ex : Exn → Mem → Prop} (h : Tri r P) : TriX r P Ex := by
  cases r with
  | ok a m => exact h
  | _ => exact h.elim
theorem TriX.tri {α : Type} {r : R α} {P : α → Mem → Prop} (h : TriX r P fun _ _ => False) : Tri r P := by
  cases r with
  | ok a m => exact h
  | _ => exact h.elim
theorem TriX.mono {α : Type} {r : R α} {P Q : α → Mem → Prop} {E F : Exn → Mem → Prop} (h : TriX r P E) (k : ∀ a m, P a m → Q a m) (k' : ∀ x m, E x m → F x m) : TriX r Q F := by
  cases r with
  | ok a m => exact k a m h
  | exc x m => exact k' x m h
  | stk => exact h
def TriSX (r : RS) (N : Env' → Mem → Prop) (Rt : D → Mem → Prop) (Ex : Exn → Mem → Prop) : Prop := match r with
  | .nxt η m => N η m
  | .ret d m => Rt d m
  | .exc x m => Ex x m
  | _ => False
section
variable (η : Env') (m : Mem) (N : Env' → Mem → Prop) (Rt : D → Mem → Prop) (Ex : Exn → Mem → Prop)
@[simp] theorem trisx_nxt : TriSX (.nxt η m) N Rt Ex = N η m := nr rfl
@[simp] theorem trisx_ret (d : D) : TriSX (.ret d m) N Rt Ex = Rt d m := nr rfl
@[simp] theorem trisx_exc (x : Exn) : TriSX (.exc x m) N Rt Ex = Ex x m := nr rfl
@[simp] theorem trisx_stk : TriSX .stk N Rt Ex = False := nr rfl
@[simp] theorem trisx_brk : TriSX (.brk η m) N Rt Ex = False := nr rfl
@[simp] theorem trisx_cnt : TriSX (.cnt η m) N Rt Ex = False := nr rfl
@[simp] theorem trisx_seq (r : RS) (f : SM) : TriSX (r.seq f) N Rt Ex = TriSX r (fun η m => TriSX (f η m) N Rt Ex) Rt Ex := by cases r <;> rfl
@[simp] theorem trisx_toS {α : Type} (r : R α) (f : α → Mem → RS) : TriSX (r.toS f) N Rt Ex = TriX r (fun a m => TriSX (f a m) N Rt Ex) Ex := by cases r <;> rfl
@[simp] theorem trisx_ite {c : Prop} [Decidable c] (a b : RS) : TriSX (if c then a else b) N Rt Ex = if c then TriSX a N Rt Ex else TriSX b N Rt Ex := by split <;> rfl
@[simp] theorem tris_catch (r : RS) (f : Exn → Mem → RS) : TriS (r.catch f) N Rt = TriSX r N Rt fun x m => TriS (f x m) N Rt := by cases r <;> rfl
end
theorem TriS.x {r : RS} {N : Env' → Mem → Prop} {Rt : D → Mem → Prop} {Ex : Exn → Mem → Prop} (h : TriS r N Rt) : TriSX r N Rt Ex := by
  cases r <;> first | exact h | exact h.elim
theorem TriSX.mono {r : RS} {N N' : Env' → Mem → Prop} {Rt Rt' : D → Mem → Prop} {Ex Ex' : Exn → Mem → Prop} (h : TriSX r N Rt Ex) (k : ∀ η m, N η m → N' η m) (k' : ∀ d m, Rt d m → Rt' d m) (k2 : ∀ x m, Ex x m → Ex' x m) : TriSX r N' Rt' Ex' := by
  cases r with
  | nxt η m => exact k η m h
  | ret d m => exact k' d m h
  | exc x m => exact k2 x m h
  | _ => exact h
/-- of a loop's body -/
def TriQX (r : RS) (N B C : Env' → Mem → Prop) (Rt : D → Mem → Prop) (Ex : Exn → Mem → Prop) : Prop := match r with
  | .nxt η m => N η m
  | .brk η m => B η m
  | .cnt η m => C η m
  | .ret d m => Rt d m
  | .exc x m => Ex x m
  | .stk => False
section
variable (η : Env') (m : Mem) (N B C : Env' → Mem → Prop) (Rt : D → Mem → Prop) (Ex : Exn → Mem → Prop)
@[simp] theorem triqx_nxt : TriQX (.nxt η m) N B C Rt Ex = N η m := nr rfl
@[simp] theorem triqx_brk : TriQX (.brk η m) N B C Rt Ex = B η m := nr rfl
@[simp] theorem triqx_cnt : TriQX (.cnt η m) N B C Rt Ex = C η m := nr rfl
@[simp] theorem triqx_ret (d : D) : TriQX (.ret d m) N B C Rt Ex = Rt d m := nr rfl
@[simp] theorem triqx_exc (x : Exn) : TriQX (.exc x m) N B C Rt Ex = Ex x m := nr rfl
@[simp] theorem triqx_stk : TriQX .stk N B C Rt Ex = False := nr rfl
@[simp] theorem triqx_seq (r : RS) (f : SM) : TriQX (r.seq f) N B C Rt Ex = TriQX r (fun η m => TriQX (f η m) N B C Rt Ex) B C Rt Ex := by cases r <;> rfl
@[simp] theorem triqx_toS {α : Type} (r : R α) (f : α → Mem → RS) : TriQX (r.toS f) N B C Rt Ex = TriX r (fun a m => TriQX (f a m) N B C Rt Ex) Ex := by cases r <;> rfl
@[simp] theorem triqx_ite {c : Prop} [Decidable c] (a b : RS) : TriQX (if c then a else b) N B C Rt Ex = if c then TriQX a N B C Rt Ex else TriQX b N B C Rt Ex := by split <;> rfl
@[simp] theorem triq_catch (r : RS) (f : Exn → Mem → RS) : TriQ (r.catch f) N B C Rt = TriQX r N B C Rt fun x m => TriQ (f x m) N B C Rt := by cases r <;> rfl
end
theorem TriQ.x {r : RS} {N B C : Env' → Mem → Prop} {Rt : D → Mem → Prop} {Ex : Exn → Mem → Prop} (h : TriQ r N B C Rt) : TriQX r N B C Rt Ex := by
  cases r <;> first | exact h | exact h.elim
theorem trix_fn {n N : Nat} {body : SM} {ds : List D} {m : Mem} {P : D → Mem → Prop} {Ex : Exn → Mem → Prop} (hl : ds.length = n) (h : TriSX (body (ds.map some ++ List.replicate (N - n) none) m) (fun _ m => P .non m) P Ex) : TriX (mFn n N body ds m) P Ex := by
  unfold mFn
  rw [if_pos hl, hl]
  revert h
  generalize body (ds.map some ++ List.replicate (N - n) none) m = r
  intro h
  cases r <;> exact h
/-- a loop that may raise, by an invariant -/
theorem for_invX' {g : GM} {body : SM} (I : Nat → Env' → Mem → Prop) (B : Env' → Mem → Prop) (Rt : D → Mem → Prop) (Ex : Exn → Mem → Prop) (n : Nat) : ∀ (ds : List D) (i : Nat) (η : Env') (m : Mem), i + ds.length = n → I i η m → (∀ j d η m, ds[j - i]? = some d → i ≤ j → j < n → I j η m → TriX (g d η m) (fun η1 m1 => TriQX (body η1 m1) (I (j + 1)) B (I (j + 1)) Rt Ex) Ex) → (∀ η m, I n η m → B η m) → TriSX (forD g body ds η m) B Rt Ex
  | [], i, η, m, hn, h0, _, hB => by
    have : i = n := hn
    subst this
    exact hB η m h0
  | d :: ds, i, η, m, hn, h0, h, hB => by
    rw [List.length_cons] at hn
    have h1 := h i d η m (by rw [Nat.sub_self]; rfl) (Nat.le_refl _) (by omega) h0
    have ih := fun η2 m2 q => for_invX' I B Rt Ex n ds (i + 1) η2 m2 (by omega) q (fun j d η m hd hj => h j d η m (by
      rw [show j - i = (j - (i + 1)) + 1 by omega]
      exact hd) (by omega)) hB
    unfold forD
    cases hg : g d η m with
    | ok η1 m1 =>
      rw [hg] at h1
      simp only [trix_ok, toS_ok] at h1 ⊢
      cases hb : body η1 m1 with
      | nxt η2 m2 => rw [hb] at h1; exact ih η2 m2 h1
      | cnt η2 m2 => rw [hb] at h1; exact ih η2 m2 h1
      | brk η2 m2 => rw [hb] at h1; exact h1
      | ret d m2 => rw [hb] at h1; exact h1
      | exc x m2 => rw [hb] at h1; exact h1
      | stk => rw [hb] at h1; exact h1.elim
    | exc x m1 => rw [hg] at h1; exact h1
    | stk => rw [hg] at h1; exact h1.elim
theorem for_invX {g : GM} {body : SM} {η : Env'} {m : Mem} {B : Env' → Mem → Prop} {Rt : D → Mem → Prop} {Ex : Exn → Mem → Prop} (I : Nat → Env' → Mem → Prop) (ds : List D) (h0 : I 0 η m) (h : ∀ j d η m, ds[j]? = some d → I j η m → TriX (g d η m) (fun η1 m1 => TriQX (body η1 m1) (I (j + 1)) B (I (j + 1)) Rt Ex) Ex) (hB : ∀ η m, I ds.length η m → B η m) : TriSX (forD g body ds η m) B Rt Ex :=
  for_invX' I B Rt Ex ds.length ds 0 η m (by omega) h0 (fun j d η m hd _ _ => h j d η m (by simpa using hd)) hB
section
variable (η : Env') (m : Mem)
@[simp] theorem ap_callX (fm : FM) (a : AM) : mCallX fm a η m = (a η m).bind fun xs m1 => fm xs m1 := nr rfl
@[simp] theorem ap_raise (x : Str) (fl : List Str) (a : AM) : mRaise x fl a η m = (a η m).toS fun ds m1 => if ds.length = fl.length then .exc ⟨x, (fl.zip ds).reverse⟩ m1 else .stk := nr rfl
@[simp] theorem ap_try (n : Nat) (b : SM) (hs : List HdlM) : mTry n b hs η m = (b η m).catch (mHds n hs) := nr rfl
@[simp] theorem ap_hds (n : Nat) (h : HdlM) (r : List HdlM) (x : Exn) : mHds n (h :: r) x m = (match h.tb.lookup x.cls with
    | some true => offS h.i (h.cs (putE n m.length h.i) (m ++ [.exc x.cls x.fs]))
    | some false => mHds n r x m
    | none => .stk) := nr rfl
@[simp] theorem ap_xf (cs : List Str) (f : Str) (c : EM) : mXf cs f c η m = (c η m).bind fun x m1 => (match excOf m1 x with
  | some e => if cs.contains e.cls = true then (match e.fs.lookup f with
    | some d => .ok d m1
    | none => .stk) else .stk
  | none => .stk) := nr rfl
@[simp] theorem tris_off (o : Option Nat) (r : RS) (N : Env' → Mem → Prop) (Rt : D → Mem → Prop) : TriS (offS o r) N Rt = TriS r (fun η m => N (offE o η) m) Rt := by cases r <;> rfl
end
theorem excOf_ref {m : Mem} {q : Nat} {c : Str} {fs : List (Str × D)} (h : m[q]? = some (.exc c fs)) : excOf m (.ref q) = some ⟨c, fs⟩ := by
  show (match m[q]? with
    | some (Cell.exc c fs) => some (⟨c, fs⟩ : Exn)
    | _ => none) = _
  rw [h]
end Mir

/-! yards as texts: names and numbers of any text, what is split -/
namespace Mir
namespace N
open PySem PySem.Spec PyProof.Rows L2 Mir Mir.Y
open Mir.V (figB numB figB_ok figB_len number_of_big fig_mem figL numL_head num_S sp nl tl_sp tl_nl wsD wsD_seq split_eq)
open NumText
/-! ### names -/
def nmB (x : Str) : Bool := decide (1 ≤ x.length ∧ x.length ≤ 6) && !decide (x ∈ keptW) && x.cps.toList.all (fun c => decide (c ∈ letL))
theorem nmB_iff {x : Str} : nmB x = true ↔ Nm x := by
  unfold nmB
  simp only [Bool.and_eq_true, decide_eq_true_eq, Bool.not_eq_true', decide_eq_false_iff_not, List.all_eq_true]
  exact ⟨fun ⟨⟨⟨h1, h2⟩, h3⟩, h4⟩ => ⟨h1, h2, h4, h3⟩, fun h => ⟨⟨⟨h.lo, h.hi⟩, h.kept⟩, h.let'⟩⟩
theorem is_name_any {m : Mem} {x : Str} (h : x.length ≤ 100000) : m_is_name [.str x] m = .ok (.bl (nmB x)) m := by
  have hin := @gIn_tstrs x keptW false m
  have e1 : gd_KEPT_WORDS = .tup (keptW.map .str) := rfl
  have eL : ∀ c : Nat, gIn false (.str ⟨#[c]⟩) gd_LETTERS m = .ok (.bl (decide (c ∈ letL))) m := fun c => by
    have eq : (Str.ofString "abcdefghijklmnopqrstuvwxyz").cps.toList = letL := by decide +kernel
    simp [gd_LETTERS]
    rw [← Array.mem_toList_iff, eq]
  have key : Tri (m_is_name [.str x] m) (fun d m' => d = .bl (nmB x) ∧ m' = m) := by
    refine tri_fn rfl ?_
    simp [b_is_name, bLen_str (show x.length ≤ 1000000 by omega), gd_LONGEST_NAME, e1, hin]
    by_cases h1 : (1 : Int) ≤ x.length
    · by_cases h6 : (x.length : Int) ≤ 6
      · by_cases hk : x ∈ keptW
        · simp [h1, h6, hk, nmB]
        · simp [h1, h6, hk, b_is_name_s1]
          rw [comp_map (fun d => D.bl (decide (sgn d ∈ letL))) (chD x) [] (fun d hd => by
            obtain ⟨c, _, rfl⟩ := mem_chD hd
            refine ⟨_, rfl, rfl, ?_⟩
            simp [wipeE, eL, sgn]) (by rw [chD_length]; exact size_le (by simp; omega))]
          rw [chD_map x (fun c => D.bl (decide (c ∈ letL)))]
          have e4 : x.cps.toList.map (fun c => D.bl (decide (c ∈ letL))) = (x.cps.toList.map fun c => decide (c ∈ letL)).map .bl := by rw [List.map_map]; rfl
          simp only [List.nil_append, tri_ok, e4, bAll_bls]
          refine ⟨?_, trivial⟩
          unfold nmB
          rw [decide_eq_true (show 1 ≤ x.length ∧ x.length ≤ 6 by omega), decide_eq_false hk, List.all_map]
          rfl
      · simp [h1, h6, nmB]; omega
    · simp [h1, nmB]; omega
  obtain ⟨d, m', e, rfl, rfl⟩ := key.ex
  exact e
/-! ### numbers from nought on -/
def cntW (w : Str) : Option Nat := if figB (TL.tl w) 9 = true then some (digitsVal (TL.tl w)) else none
theorem fig_zero {l : List Nat} {k : Int} (h : figB l k = true) : digitsVal l = 0 ↔ l = [48] := by
  constructor
  · intro e
    cases l with
    | nil => exact absurd rfl (figB_ok h).2
    | cons c r =>
      by_cases hc : c = 48
      · unfold figB at h
        simp [hc] at h
        rw [hc, h.2]
      · have hd := (figB_ok h).1 c List.mem_cons_self
        have := digitsVal_pos (c := c) (cs := r) (by omega)
        omega
  · rintro rfl
    rfl
theorem fig_no45 {l : List Nat} {k : Int} (h : l.take 1 = [45]) : figB l k = false := by
  cases l with
  | nil => cases h
  | cons c r =>
    simp at h
    subst h
    unfold figB
    have : (45 :: r).all (fun c => decide (c ∈ figL)) = false := by
      rw [List.all_cons]
      rfl
    rw [this]
    simp
theorem mk_S (w : Str) : w = SX.S (TL.tl w) := TL.ext_tl rfl
theorem num_any {m : Mem} {w : Str} (h : w.length ≤ 20000) : m_number_of [.str w, .int 9] m = .ok (numB (TL.tl w) 9) m := by
  have := number_of_big (m := m) (l := TL.tl w) (k := 9) (by rw [← TL.len_tl]; exact h) (by decide)
  rw [← mk_S w] at this
  exact this
theorem count_of_eq {m : Mem} {w : Str} (h : w.length ≤ 20000) : m_count_of [.str w] m = .ok (oD (cntW w)) m := by
  have key : Tri (m_count_of [.str w] m) (fun d m' => d = oD (cntW w) ∧ m' = m) := by
    refine tri_fn rfl ?_
    have ea : arr [0, 1] [D.str w, D.int 9] = [D.str w, .int 9] := rfl
    simp [b_count_of]
    rw [ea, num_any h]
    unfold numB cntW
    by_cases h45 : (TL.tl w).take 1 = [45]
    · rw [fig_no45 h45]
      by_cases hf : figB (TL.tl w).tail 9 = true ∧ (TL.tl w).tail ≠ [48]
      · have hz := fig_zero hf.1
        have : digitsVal (TL.tl w).tail ≠ 0 := fun e => hf.2 (hz.mp e)
        have hlt : (0 : Int) < (digitsVal (TL.tl w).tail : Nat) := by omega
        simp only [h45, hf, if_true, and_self, ne_eq, not_false_eq_true]
        simp [b_count_of_s1, Mir.isNon, oD, hlt]
        exact fun z => absurd z this
      · rw [if_pos h45, if_neg hf]
        simp [b_count_of_s1, Mir.isNon, oD]
    · by_cases hf : figB (TL.tl w) 9 = true
      · have hnn : ¬ ((digitsVal (TL.tl w) : Nat) : Int) < 0 := by omega
        rw [if_neg h45, if_pos hf, if_pos hf]
        simp [b_count_of_s1, Mir.isNon, oD, hnn, b_count_of_s2]
      · rw [if_neg h45, if_neg hf, if_neg hf]
        simp [b_count_of_s1, Mir.isNon, oD]
  obtain ⟨d, m', e, rfl, rfl⟩ := key.ex
  exact e
/-! ### what is split -/
theorem pre1 (c x : Nat) (r : List Nat) : TL.pre [c] (x :: r) = decide (x = c) := by
  unfold TL.pre
  by_cases h : x = c
  · simp [h]
  · simp [h]
theorem spl_len (c : Nat) : ∀ (l acc : List Nat), TL.spl [c] 0 acc l ≠ [] ∧ (TL.spl [c] 0 acc l).length ≤ l.length + 1 ∧ ∀ y ∈ TL.spl [c] 0 acc l, y.length ≤ acc.length + l.length
  | [], acc => by rw [TL.spl_nil]; simp
  | x :: l, acc => by
    by_cases h : x = c
    · rw [TL.spl_hit (by rw [pre1, decide_eq_true h])]
      obtain ⟨h1, h2, h3⟩ := spl_len c l []
      refine ⟨by simp, by simpa using h2, fun y hy => ?_⟩
      rcases List.mem_cons.mp hy with rfl | hy
      · simp
      · have := h3 y hy
        simp at this ⊢
        omega
    · rw [TL.spl_miss (by rw [pre1, decide_eq_false h])]
      obtain ⟨h1, h2, h3⟩ := spl_len c l (acc ++ [x])
      refine ⟨h1, by simp; omega, fun y hy => ?_⟩
      have := h3 y hy
      simp at this ⊢
      omega
/-- a sign that parts texts -/
structure Sep (y : Str) (c : Nat) : Prop where
  tl : TL.tl y = [c]
  few : y.cps.all (· < 256) = true
theorem sep_sp : Sep sp 32 := ⟨by decide +kernel, by decide +kernel⟩
theorem sep_nl : Sep nl 10 := ⟨by decide +kernel, by decide +kernel⟩
theorem Sep.spl {y : Str} {c : Nat} (s : Sep y c) (x : Str) : (Txt.split x y).map TL.tl = TL.spl [c] 0 [] (TL.tl x) := by
  rw [TL.split_spl x y (by rw [s.tl]; simp) (TL.kind_ok s.few), s.tl]
theorem Sep.len {y : Str} {c : Nat} (s : Sep y c) (x : Str) : Txt.split x y ≠ [] ∧ (Txt.split x y).length ≤ x.length + 1 ∧ ∀ w ∈ Txt.split x y, w.length ≤ x.length := by
  obtain ⟨h1, h2, h3⟩ := spl_len c (TL.tl x) []
  rw [← s.spl x] at h1 h2 h3
  rw [List.length_map, ← TL.len_tl] at h2
  refine ⟨fun e => h1 (by rw [e]; rfl), h2, fun w hw => ?_⟩
  have := h3 _ (List.mem_map.mpr ⟨w, hw, rfl⟩)
  rw [← TL.len_tl] at this
  rw [TL.len_tl x]
  simpa using this
theorem Sep.l1 {y : Str} {c : Nat} (s : Sep y c) : (y.length == 0) = false := by
  rw [TL.len_tl, s.tl]
  rfl
/-- a row's words -/
def wrd (r : Str) : List Str := Txt.split r sp
theorem split_sp {m : Mem} {r : Str} (h : r.length ≤ 20000) : gSplit false (.str r) [.str (Str.ofString " ")] m = .ok (wsD (wrd r)) m := split_eq sep_sp.l1 (by omega) rfl
theorem split_nl {m : Mem} {r : Str} (h : r.length ≤ 20000) : gSplit false (.str r) [.str (Str.ofString "\n")] m = .ok (wsD (Txt.split r nl)) m := split_eq sep_nl.l1 (by omega) rfl
def deedsS : Str := Str.ofString "deeds"
def namesW (r : Str) : Option (List Str) := match wrd r with
  | w :: ws => if w = deedsS ∧ ws.all nmB = true then some ws else none
  | [] => none
def namD : Option (List Str) → D
  | some ns => sT ns
  | none => .non
theorem d1 (x : D) (l : List D) : cutD (x :: l) (some 1) none = l := by
  have := cutD_drop (x :: l) 1
  exact this
theorem names_in_eq {m : Mem} {r : Str} (h : r.length ≤ 20000) : m_names_in [.str r] m = .ok (namD (namesW r)) m := by
  have key : Tri (m_names_in [.str r] m) (fun d m' => d = namD (namesW r) ∧ m' = m) := by
    refine tri_fn rfl ?_
    obtain ⟨h1, h2, h3⟩ := sep_sp.len r
    unfold namesW wrd
    simp [b_names_in, split_sp h]
    unfold wrd
    revert h1 h2 h3
    generalize Txt.split r sp = ws
    intro h1 h2 h3
    cases ws with
    | nil => exact absurd rfl h1
    | cons w ws =>
      have g0 : ∀ m, gIx (wsD (w :: ws)) (.int 0) m = .ok (.str w) m := fun m => gIx_lst (Y.atI_nat (k := 0) rfl)
      have s1 : ∀ m, gSl false (wsD (w :: ws)) (some 1) none m = .ok (.lst (ws.map .str)) m := fun m => by
        show gSl false (.lst ((w :: ws).map .str)) (some 1) none m = _
        rw [gSl_lst, List.map_cons, d1]
      simp [b_names_in_s1, g0, s1]
      by_cases hw : w = Str.ofString "deeds"
      · subst hw
        simp
        refine tri_map D.str (fun x => D.bl (nmB x)) ws (fun x hx => ⟨_, rfl, rfl, ?_⟩) (by simp at h2; omega) ?_
        · have := h3 x (List.mem_cons_of_mem _ hx)
          simp [wipeE, is_name_any (show x.length ≤ 100000 by omega)]
        · have e4 : ws.map (fun x => D.bl (nmB x)) = (ws.map nmB).map .bl := by rw [List.map_map]; rfl
          simp only [mkL_f, tri_ok, e4, bAll_bls]
          have ea : (ws.map nmB).all id = ws.all nmB := by rw [List.all_map]; rfl
          rw [ea]
          by_cases ha : ws.all nmB = true
          · have ha' : ∀ x ∈ ws, nmB x = true := List.all_eq_true.mp ha
            simp only [ha]
            simp [b_names_in_s2, s1, namD, deedsS]
            rw [if_pos ha']
            rfl
          · have ha2 : ws.all nmB = false := by simpa using ha
            simp only [ha2]
            have ha' : ¬ ∀ x ∈ ws, nmB x = true := fun z => ha (List.all_eq_true.mpr z)
            simp [namD, deedsS]
            rw [if_neg ha']
      · have hw' : ¬ w = deedsS := hw
        simp [hw, namD, hw']
  obtain ⟨d, m', e, rfl, rfl⟩ := key.ex
  exact e
end N
end Mir

/-! yards as texts: a heap's row read; yards looked at and read, of any text -/
namespace Mir
namespace N
open PySem PySem.Spec PyProof.Rows L2 Mir Mir.Y
open Mir.V (figB numB figB_ok figB_len number_of_big fig_mem figL numL_head num_S sp nl tl_sp tl_nl wsD wsD_seq split_eq)
open NumText
def gt : Str := Str.ofString ">"
theorem sep_gt : Sep gt 62 := ⟨by decide +kernel, by decide +kernel⟩
theorem par_len (c : Nat) : ∀ (l acc : List Nat) (a b : List Nat), TL.par [c] acc l = some (a, b) → a.length ≤ acc.length + l.length ∧ b.length ≤ l.length
  | [], acc, a, b, h => by
    unfold TL.par at h
    cases h
  | x :: l, acc, a, b, h => by
    by_cases hx : x = c
    · rw [TL.par_hit (by rw [pre1, decide_eq_true hx])] at h
      cases h
      simp
    · rw [TL.par_miss (by rw [pre1, decide_eq_false hx])] at h
      obtain ⟨h1, h2⟩ := par_len c l _ a b h
      simp at h1 ⊢
      omega
theorem prt_len (w : Str) : (Txt.partition w gt).1.length ≤ w.length ∧ (Txt.partition w gt).2.2.length ≤ w.length := by
  rw [TL.partition_par w gt (by rw [sep_gt.tl]; simp), sep_gt.tl]
  cases h : TL.par [62] [] (TL.tl w) with
  | none => exact ⟨Nat.le_refl _, by simp [Str.empty, Str.length]⟩
  | some p =>
    obtain ⟨a, b⟩ := p
    obtain ⟨h1, h2⟩ := par_len _ _ _ _ _ h
    rw [TL.len_tl w]
    simp at h1
    exact ⟨by simpa [Str.length] using h1, by simpa [Str.length] using h2⟩
theorem part_eq {m : Mem} {w : Str} (h : w.length ≤ 20000) : gPartition (.str w) [.str (Str.ofString ">")] m = .ok (.tup [.str (Txt.partition w gt).1, .str (Txt.partition w gt).2.1, .str (Txt.partition w gt).2.2]) m := by
  show (if (gt.length == 0) = false ∧ w.length ≤ sizeLine then _ else _) = _
  rw [if_pos ⟨sep_gt.l1, size_le (by omega)⟩]
  rfl
def tkW (w : Str) : Option Nat := cntW (Txt.partition w gt).1
def lkW (w : Str) : Option Nat := cntW (Txt.partition w gt).2.2
def nthS (ws : List Str) (i : Nat) : Str := ws.getD i Str.empty
def heapS : Str := Str.ofString "heap"
def colS : Str := Str.ofString ":"
/-- all of them, as whole numbers -/
def valsN (os : List (Option Nat)) : List Int := os.map fun o => ((o.getD 0 : Nat) : Int)
def heapW (r : Str) (n : Nat) : Option Hea :=
  if (wrd r).length = 3 + n ∧ nthS (wrd r) 0 = heapS ∧ nthS (wrd r) 2 = colS then
    (if cntW (nthS (wrd r) 1) = none ∨ none ∈ ((wrd r).drop 3).map tkW ∨ none ∈ ((wrd r).drop 3).map lkW then none
     else some ⟨(((cntW (nthS (wrd r) 1)).getD 0 : Nat) : Int), valsN (((wrd r).drop 3).map tkW), valsN (((wrd r).drop 3).map lkW)⟩) else none
def heaO : Option Hea → D
  | some x => heaD x
  | none => .non
theorem mapO_oD (os : List (Option Nat)) : mapO flatD (os.map oD) = some (os.map fun o => match o with
    | none => V.non
    | some k => V.int (k : Nat)) := by
  rw [mapO_map (g := oD) (h := fun o => match o with
    | none => V.non
    | some k => V.int (k : Nat)) (f := flatD) (fun o => by cases o <;> rfl)]
theorem inV_non : ∀ os : List (Option Nat), inV .non (os.map fun o => match o with
    | none => V.non
    | some k => V.int (k : Nat)) = decide (none ∈ os)
  | [] => rfl
  | o :: os => by
    have ih := inV_non os
    unfold inV at ih ⊢
    rw [List.map_cons, List.any_cons, ih]
    cases o with
    | none => simp [eqV]
    | some k =>
      have : eqV (V.int (k : Nat)) V.non = false := rfl
      simp [this]
theorem gIn_nonL {m : Mem} {q : Nat} {os : List (Option Nat)} (h : m[q]? = some (.lst (os.map oD))) : gIn false .non (.ref q) m = .ok (.bl (decide (none ∈ os))) m := by
  have e : lstOf m (.ref q) = some (os.map oD) := by simp [lstOf, h, lstC]
  show bR false m (inOf m .non (.ref q)) = _
  unfold inOf
  have f : flatD D.non = some V.non := rfl
  simp only [e, flatIn, f, mapO_oD, inV_non, bR]
  simp
theorem oD_vals {os : List (Option Nat)} (h : none ∉ os) : os.map oD = (valsN os).map D.int := by
  unfold valsN
  rw [List.map_map]
  refine List.map_congr_left fun o ho => ?_
  cases o with
  | none => exact absurd ho h
  | some k => rfl
theorem nthS_get {ws : List Str} {i : Nat} (h : i < ws.length) : ws[i]? = some (nthS ws i) := by
  unfold nthS
  rw [List.getD_eq_getElem?_getD, List.getElem?_eq_getElem h]
  rfl
section
variable {m : Mem} {P : D → Mem → Prop}
theorem heap_in_then {r : Str} {n : Nat} (h : r.length ≤ 20000) (hP : ∀ m', Kp m m' → P (heaO (heapW r n)) m') : Tri (m_heap_in [.str r, .int (n : Nat)] m) P := by
  refine tri_fn rfl ?_
  obtain ⟨h1, h2, h3⟩ := sep_sp.len r
  simp [b_heap_in, split_sp h]
  have hlen : ∀ w ∈ wrd r, w.length ≤ 20000 := fun w hw => by have := h3 w hw; omega
  have hwl : (wrd r).length ≤ 20001 := by unfold wrd; omega
  unfold heapW at hP
  generalize wrd r = ws at hlen hwl hP
  have gi : ∀ i m, i < ws.length → gIx (wsD ws) (.int (i : Nat)) m = .ok (.str (nthS ws i)) m := fun i m hi => gIx_lst (Y.atI_nat (by rw [List.getElem?_map, nthS_get hi]; rfl))
  have hln : ∀ i, i < ws.length → (nthS ws i).length ≤ 20000 := fun i hi => hlen _ (List.mem_of_getElem? (nthS_get hi))
  have gl : ∀ m, bLen [wsD ws] m = .ok (.int (ws.length : Nat)) m := fun m => by unfold wsD; simp
  simp [b_heap_in_s1, gl]
  by_cases hl : ws.length = 3 + n
  · have hl' : (ws.length : Int) = 3 + (n : Int) := by omega
    have g0 : ∀ m, gIx (wsD ws) (.int 0) m = .ok (.str (nthS ws 0)) m := fun m => gi 0 m (by omega)
    have g1 : ∀ m, gIx (wsD ws) (.int 1) m = .ok (.str (nthS ws 1)) m := fun m => gi 1 m (by omega)
    have g2 : ∀ m, gIx (wsD ws) (.int 2) m = .ok (.str (nthS ws 2)) m := fun m => gi 2 m (by omega)
    simp [hl', g0, g2]
    by_cases hh : nthS ws 0 = heapS
    · by_cases hc : nthS ws 2 = colS
      · have hh' : nthS ws 0 = Str.ofString "heap" := hh
        have hc' : nthS ws 2 = Str.ofString ":" := hc
        rw [if_pos ⟨hl, hh, hc⟩] at hP
        simp [hh', hc', b_heap_in_s2, g1, count_of_eq (hln 1 (by omega)), b_heap_in_s3]
        have hc1 : (m ++ [Cell.lst []])[m.length]? = some (.lst ((((ws.drop 3).map tkW).take 0).map oD)) := by simp
        have hk1 : Kp m (m ++ [Cell.lst []]) := (Kp.refl m).push _
        have hml : (m ++ [Cell.lst []]).length = m.length + 1 := by simp
        generalize m ++ [Cell.lst []] = m1 at hc1 hk1 hml
        simp [b_heap_in_s4]
        have hc2 : (m1 ++ [Cell.lst []])[m.length]? = some (.lst ((((ws.drop 3).map tkW).take 0).map oD)) := by rw [List.getElem?_append_left (by omega)]; exact hc1
        have hd2 : (m1 ++ [Cell.lst []])[m1.length]? = some (.lst ((((ws.drop 3).map lkW).take 0).map oD)) := by simp
        have hk2 : Kp m (m1 ++ [Cell.lst []]) := hk1.push _
        have hne : m1.length ≠ m.length := by omega
        have hle : m.length ≤ m1.length := by omega
        generalize m1 ++ [Cell.lst []] = m2 at hc2 hd2 hk2
        generalize m1.length = q at *
        have s3 : ∀ m, gSl false (wsD ws) (some 3) none m = .ok (.lst ((ws.drop 3).map .str)) m := fun m => by
          show gSl false (.lst (ws.map .str)) (some 3) none m = _
          rw [gSl_lst]
          have := cutD_drop (ws.map .str) 3
          rw [← List.map_drop] at this
          exact congrArg (fun z => R.ok (D.lst z) m) this
        simp [b_heap_in_s5, s3]
        rw [← List.map_drop]
        have hdl : (ws.drop 3).length = n := by rw [List.length_drop]; omega
        have hdm : ∀ w ∈ ws.drop 3, w.length ≤ 20000 := fun w hw => hlen w (List.mem_of_mem_drop hw)
        generalize ws.drop 3 = vs at *
        obtain ⟨Inv, hInv⟩ : ∃ I : Nat → Env' → Mem → Prop, ∀ k η m', I k η m' ↔ (Kp m m' ∧ ∃ e6 e7 e8 e9, η = [some (.str r), some (.int (n : Nat)), some (wsD ws), some (oD (cntW (nthS ws 1))), some (.ref m.length), some (.ref q), e6, e7, e8, e9] ∧ m'[m.length]? = some (.lst (((vs.map tkW).take k).map oD)) ∧ m'[q]? = some (.lst (((vs.map lkW).take k).map oD))) := ⟨_, fun _ _ _ => Iff.rfl⟩
        refine for_inv Inv _ ((hInv _ _ _).mpr ⟨hk2, _, _, _, _, rfl, hc2, hd2⟩) (fun k d η m3 hkd hI => ?_) (fun η m3 hI => ?_)
        · obtain ⟨hk3, e6, e7, e8, e9, rfl, hc3, hd3⟩ := (hInv _ _ _).mp hI
          rw [List.getElem?_map] at hkd
          cases hx : vs[k]? with
          | none => rw [hx] at hkd; cases hkd
          | some w =>
          rw [hx] at hkd
          cases hkd
          have hwm := List.mem_of_getElem? hx
          have hkl := (List.getElem?_eq_some_iff.mp hx).1
          obtain ⟨p1, p2⟩ := prt_len w
          have hw2 := hdm w hwm
          have st : ∀ m, isTy "str" m (.str w) = true := fun m => rfl
          simp [b_heap_in_0, st, part_eq hw2, b_heap_in_0s1, isTy_ref hc3, count_of_eq (show (Txt.partition w gt).1.length ≤ 20000 by omega)]
          have app : gAppend (.ref m.length) [oD (cntW (Txt.partition w gt).1)] m3 = .ok .non (m3.set m.length (.lst (((vs.map tkW).take k).map oD ++ [oD (tkW w)]))) := append_ref hc3 (by simp; omega)
          rw [app]
          have hd4 : (m3.set m.length (.lst (((vs.map tkW).take k).map oD ++ [oD (tkW w)])))[q]? = some (.lst (((vs.map lkW).take k).map oD)) := by rw [List.getElem?_set_ne (Ne.symm hne)]; exact hd3
          have hc4 : (m3.set m.length (.lst (((vs.map tkW).take k).map oD ++ [oD (tkW w)])))[m.length]? = some (.lst (((vs.map tkW).take (k + 1)).map oD)) := by
            rw [List.getElem?_set_self (List.getElem?_eq_some_iff.mp hc3).1, List.take_add_one, List.getElem?_map, hx, List.map_append]
            rfl
          have hk4 : Kp m (m3.set m.length (.lst (((vs.map tkW).take k).map oD ++ [oD (tkW w)]))) := hk3.put (Nat.le_refl _) _
          generalize m3.set m.length (.lst (((vs.map tkW).take k).map oD ++ [oD (tkW w)])) = m4 at hd4 hc4 hk4
          simp [b_heap_in_0s2, isTy_ref hd4, count_of_eq (show (Txt.partition w gt).2.2.length ≤ 20000 by omega)]
          have app2 : gAppend (.ref q) [oD (cntW (Txt.partition w gt).2.2)] m4 = .ok .non (m4.set q (.lst (((vs.map lkW).take k).map oD ++ [oD (lkW w)]))) := append_ref hd4 (by simp; omega)
          rw [app2]
          simp only [tri_ok]
          refine (hInv _ _ _).mpr ⟨hk4.put hle _, _, _, _, _, rfl, by rw [List.getElem?_set_ne hne]; exact hc4, ?_⟩
          rw [List.getElem?_set_self (List.getElem?_eq_some_iff.mp hd4).1, List.take_add_one, List.getElem?_map, hx, List.map_append]
          rfl
        · obtain ⟨hk3, e6, e7, e8, e9, rfl, hc3, hd3⟩ := (hInv _ _ _).mp hI
          rw [List.length_map, List.take_of_length_le (by simp)] at hc3 hd3
          simp [b_heap_in_s6, gIn_nonL hc3, gIn_nonL hd3]
          have en : ∀ o : Option Nat, Mir.isNon (oD o) = decide (o = none) := fun o => by cases o <;> rfl
          simp only [en]
          by_cases q1 : cntW (nthS ws 1) = none
          · rw [if_pos (.inl q1)] at hP
            simp [q1]
            exact hP m3 hk3
          · by_cases q2 : none ∈ vs.map tkW
            · rw [if_pos (.inr (.inl q2))] at hP
              have q2' := q2
              simp at q2'
              simp [q1, q2']
              exact hP m3 hk3
            · by_cases q3 : none ∈ vs.map lkW
              · rw [if_pos (.inr (.inr q3))] at hP
                have q2' := q2
                have q3' := q3
                simp at q2' q3'
                simp [q1, q3']
                exact hP m3 hk3
              · rw [if_neg (by simp only [not_or]; exact ⟨q1, q2, q3⟩)] at hP
                have q2' := q2
                have q3' := q3
                simp at q2' q3'
                rw [oD_vals q2] at hc3
                rw [oD_vals q3] at hd3
                cases hc : cntW (nthS ws 1) with
                | none => exact absurd hc q1
                | some c =>
                  rw [hc] at hP
                  have n2 : ¬ ∃ a, a ∈ vs ∧ tkW a = none := fun ⟨a, h1, h2⟩ => q2' a h1 h2
                  have n3 : ¬ ∃ a, a ∈ vs ∧ lkW a = none := fun ⟨a, h1, h2⟩ => q3' a h1 h2
                  simp [b_heap_in_s7, tuple_ref hc3, tuple_ref hd3, oD]
                  rw [if_neg n2, if_neg n3]
                  have := hP m3 hk3
                  simpa [heaO, heaD, iT] using this
      · have hh' : nthS ws 0 = Str.ofString "heap" := hh
        have hc' : ¬ nthS ws 2 = Str.ofString ":" := hc
        rw [if_neg (fun z => hc z.2.2)] at hP
        simp [hh', hc']
        exact hP m (Kp.refl m)
    · have hh' : ¬ nthS ws 0 = Str.ofString "heap" := hh
      rw [if_neg (fun z => hh z.2.1)] at hP
      simp [hh']
      exact hP m (Kp.refl m)
  · have hl' : ¬ (ws.length : Int) = 3 + (n : Int) := by omega
    simp [hl']
    rw [if_neg (fun z => hl z.1)] at hP
    exact hP m (Kp.refl m)
end
end N
end Mir

/-! yards as texts: yards looked at, texts read -/
namespace Mir
namespace N
open PySem PySem.Spec PyProof.Rows L2 Mir Mir.Y
open Mir.V (is_whole_eq all_trues loopE_map sp nl wsD)
section
variable {m : Mem}
theorem are_whole_eq {xs : List Int} {n : Nat} (h : xs.length = n) (hn : n ≤ 30000) : m_are_whole [iT xs, .int (n : Nat)] m = .ok (.bl true) m := by
  have key : Tri (m_are_whole [iT xs, .int (n : Nat)] m) (fun d m' => d = .bl true ∧ m' = m) := by
    refine tri_fn rfl ?_
    simp [b_are_whole, iT, h]
    refine tri_map D.int (fun _ => D.bl true) xs (fun x hx => ⟨_, rfl, rfl, by simp [wipeE, is_whole_eq]⟩) (by omega) ?_
    simp only [mkL_f, tri_ok, all_trues]
    exact ⟨trivial, trivial⟩
  obtain ⟨d, m', e, rfl, rfl⟩ := key.ex
  exact e
theorem is_heap_eq {x : Hea} {n : Nat} (ht : x.t.length = n) (hl : x.l.length = n) (hn : n ≤ 30000) : m_is_heap [heaD x, .int (n : Nat)] m = .ok (.bl true) m := by
  have key : Tri (m_is_heap [heaD x, .int (n : Nat)] m) (fun d m' => d = .bl true ∧ m' = m) := by
    refine tri_fn rfl ?_
    have e : heaD x = .tup [.int x.s, iT x.t, iT x.l] := rfl
    simp [b_is_heap, e, is_whole_eq, b_is_heap_s1, gIx_hea1, gIx_hea2]
    simp [are_whole_eq ht hn, are_whole_eq hl hn]
  obtain ⟨d, m', e, rfl, rfl⟩ := key.ex
  exact e
theorem has_form_eq {y : Yar} (hf : Fit y.d.length y.h) (hl : y.h.length ≤ 30000) (hd : y.d.length ≤ 30000) : m_has_form [yarD y] m = .ok (.bl true) m := by
  have key : Tri (m_has_form [yarD y] m) (fun d m' => d = .bl true ∧ m' = m) := by
    refine tri_fn rfl ?_
    have e : yarD y = .tup [.tup (y.d.map .str), .tup (y.h.map heaD)] := rfl
    simp [b_has_form, e, b_has_form_s1, b_has_form_s2]
    have es : ∀ x : Str, tyNm m (.str x) = some "str" := fun x => rfl
    refine tri_map D.str (fun _ => D.bl true) y.d (fun x hx => ⟨_, rfl, rfl, by simp [wipeE, es]⟩) (by omega) ?_
    simp only [mkL_f, tri_ok, all_trues]
    simp [b_has_form_s3]
    refine tri_map heaD (fun _ => D.bl true) y.h (fun x hx => ⟨_, rfl, rfl, by
      obtain ⟨h1, h2⟩ := hf x hx
      simp [wipeE, is_heap_eq h1 h2 hd]⟩) (by omega) ?_
    simp only [mkL_f, tri_ok, all_trues]
    exact ⟨trivial, trivial⟩
  obtain ⟨d, m', e, rfl, rfl⟩ := key.ex
  exact e
end
/-- a name that doesn't stand above the one ahead -/
def Bad (ns : List Str) (k : Nat) : Prop := 0 < k ∧ ¬ ltS (nAt ns (k - 1)) (nAt ns k)
theorem up_bad {ns : List Str} (h : Nms ns) (k : Nat) (hk : k < ns.length) : ¬ Bad ns k := fun ⟨h0, hb⟩ => by
  refine hb ?_
  have hk1 : k - 1 < ns.length := by omega
  have e1 := Option.some.inj ((nAt_lt hk1).symm.trans (List.getElem?_eq_getElem hk1))
  have e2 := Option.some.inj ((nAt_lt hk).symm.trans (List.getElem?_eq_getElem hk))
  rw [e1, e2]
  exact List.pairwise_iff_getElem.mp h.up (k - 1) k (by omega) hk (by omega)
def xText (i : Int) : Exn := ⟨"NoText", [("row", .int i)]⟩
def xDeed (k : Nat) : Exn := ⟨"NoYard", [("at", .tup [.int (k : Nat)]), ("word", .str (Str.ofString "deed"))]⟩
section
variable {m : Mem} {P : D → Mem → Prop} {Ex : Exn → Mem → Prop}
theorem look_yard_then {y : Yar} (hf : Fit y.d.length y.h) (hl : y.h.length ≤ 30000) (hd : y.d.length ≤ 30000) (hn : ∀ x ∈ y.d, nmB x = true) (hnl : ∀ x ∈ y.d, x.length ≤ 100000) (nn : ∀ x ∈ y.h, 0 ≤ x.s ∧ (∀ v ∈ x.t, 0 ≤ v) ∧ ∀ v ∈ x.l, 0 ≤ v)
    (h1 : (∀ k, k < y.d.length → ¬ Bad y.d k) → P (.bl true) m) (h2 : ∀ k, k < y.d.length → Bad y.d k → (∀ j, j < k → ¬ Bad y.d j) → Ex (xDeed k) m) : TriX (m_look_yard [yarD y] m) P Ex := by
  refine trix_fn rfl ?_
  have e : yarD y = .tup [.tup (y.d.map .str), .tup (y.h.map heaD)] := rfl
  simp [b_look_yard, has_form_eq hf hl hd, b_look_yard_s1]
  rw [e]
  simp [b_look_yard_s2]
  rw [loopE_map, enumD_map]
  obtain ⟨Inv, hInv⟩ : ∃ I : Nat → Env' → Mem → Prop, ∀ k η m', I k η m' ↔ (m' = m ∧ (∀ j, j < k → ¬ Bad y.d j) ∧ ∃ e3 e4 e5 e6 e7 e8, η = [some (.tup [.tup (y.d.map .str), .tup (y.h.map heaD)]), some (.tup (y.d.map .str)), some (.tup (y.h.map heaD)), e3, e4, e5, e6, e7, e8]) := ⟨_, fun _ _ _ => Iff.rfl⟩
  refine for_invX Inv _ ((hInv _ _ _).mpr ⟨rfl, fun j hj => by omega, _, _, _, _, _, _, rfl⟩) (fun k d η m' hkd hI => ?_) (fun η m' hI => ?_)
  · obtain ⟨rfl, hb, e3, e4, e5, e6, e7, e8, rfl⟩ := (hInv _ _ _).mp hI
    rw [List.getElem?_map, List.getElem?_zipIdx] at hkd
    cases hx : y.d[k]? with
    | none => rw [hx] at hkd; cases hkd
    | some x =>
    rw [hx] at hkd
    cases hkd
    have hxm := List.mem_of_getElem? hx
    have hkl := (List.getElem?_eq_some_iff.mp hx).1
    have hxe : nAt y.d k = x := Option.some.inj ((nAt_lt hkl).symm.trans hx)
    simp [is_name_any (hnl x hxm), hn x hxm]
    by_cases hk : 0 < k
    · obtain ⟨j, rfl⟩ : ∃ j, k = j + 1 := ⟨k - 1, by omega⟩
      have g : gIx (.tup (y.d.map .str)) (.int (j : Nat)) m' = .ok (.str (nAt y.d j)) m' := gIx_sT (nAt_lt (by omega)) m'
      by_cases lt : (nAt y.d j).cps.toList < x.cps.toList
      · simp [g, gCmp, lt]
        refine (hInv _ _ _).mpr ⟨rfl, fun i hi => ?_, _, _, _, _, _, _, rfl⟩
        by_cases e : i = j + 1
        · subst e
          intro ⟨_, z⟩
          refine z ?_
          rw [hxe]
          exact lt
        · exact hb i (by omega)
      · simp [g, gCmp, lt]
        have : Bad y.d (j + 1) := ⟨by omega, by
          rw [hxe]
          exact lt⟩
        exact h2 (j + 1) hkl this hb
    · simp [hk]
      refine (hInv _ _ _).mpr ⟨rfl, fun i hi => ?_, _, _, _, _, _, _, rfl⟩
      intro ⟨z, _⟩
      omega
  · obtain ⟨rfl, hb, e3, e4, e5, e6, e7, e8, rfl⟩ := (hInv _ _ _).mp hI
    have hb : ∀ k, k < y.d.length → ¬ Bad y.d k := fun k hk => hb k (by simpa using hk)
    simp [b_look_yard_s3]
    rw [loopE_map, enumD_map]
    refine TriS.x ?_
    obtain ⟨J, hJ⟩ : ∃ I : Nat → Env' → Mem → Prop, ∀ k η m'', I k η m'' ↔ (m'' = m' ∧ ∃ e3 e4 e5 e6 e7 e8, η = [some (.tup [.tup (y.d.map .str), .tup (y.h.map heaD)]), some (.tup (y.d.map .str)), some (.tup (y.h.map heaD)), e3, e4, e5, e6, e7, e8]) := ⟨_, fun _ _ _ => Iff.rfl⟩
    refine for_inv J _ ((hJ _ _ _).mpr ⟨rfl, _, _, _, _, _, _, rfl⟩) (fun k d η m2 hkd hI => ?_) (fun η m2 hI => ?_)
    · obtain ⟨rfl, e3, e4, e5, e6, e7, e8, rfl⟩ := (hJ _ _ _).mp hI
      rw [List.getElem?_map, List.getElem?_zipIdx] at hkd
      cases hx : y.h[k]? with
      | none => rw [hx] at hkd; cases hkd
      | some x =>
      rw [hx] at hkd
      cases hkd
      have hxm := List.mem_of_getElem? hx
      obtain ⟨f1, f2⟩ := hf x hxm
      obtain ⟨n1, n2, n3⟩ := nn x hxm
      have ex : heaD x = .tup [.int x.s, iT x.t, iT x.l] := rfl
      have g1 : gAdd false (.tup [.int x.s]) (iT x.t) m2 = .ok (iT (x.s :: x.t)) m2 := by
        unfold iT
        rw [gAdd_tup (by simp; omega)]; rfl
      have g2 : gAdd false (iT (x.s :: x.t)) (iT x.l) m2 = .ok (iT (x.s :: x.t ++ x.l)) m2 := by
        unfold iT
        rw [gAdd_tup (by simp; omega), ← List.map_append]
      have hne : x.s :: x.t ++ x.l ≠ [] := by simp
      have em : bSel minL [iT (x.s :: x.t ++ x.l)] m2 = .ok (.int (mn (x.s :: x.t ++ x.l))) m2 := sel_min rfl hne
      have hmn : ¬ mn (x.s :: x.t ++ x.l) < 0 := by
        have := (mn_ok hne).1
        rcases List.mem_append.mp this with q | q
        · rcases List.mem_cons.mp q with q | q
          · omega
          · have := n2 _ q; omega
        · have := n3 _ q; omega
      simp only [ex]
      simp [g1]
      simp only [List.cons_append] at g2 em hmn
      simp [g2, em, hmn]
      exact (hJ _ _ _).mpr ⟨rfl, _, _, _, _, _, _, rfl⟩
    · obtain ⟨rfl, e3, e4, e5, e6, e7, e8, rfl⟩ := (hJ _ _ _).mp hI
      simp [b_look_yard_s4]
      exact h1 hb
theorem rng1_big {b : Nat} (hb : b ≤ 100000) (hb1 : 1 ≤ b) (m : Mem) : rng2R (.int 1) (.int (b : Nat)) m = .ok (srcLP (rngD ((1 : Nat) : Int) (b - 1))) m := by
  rw [rng2R_int (m := m) 1 (b : Nat) (by omega) (by omega) (by omega) (by omega)]
  congr 2
  congr 1
  omega
theorem rng1_get {n k : Nat} {d : D} (h : (rngD 1 n)[k]? = some d) : k < n ∧ d = .int ((1 + k : Nat) : Int) := by
  unfold rngD at h
  rw [List.getElem?_map] at h
  by_cases hk : k < n
  · rw [List.getElem?_range hk] at h
    cases h
    exact ⟨hk, by congr 1⟩
  · rw [List.getElem?_eq_none (by simpa using hk)] at h
    cases h
/-- what the heaps' rows tell -/
def Rws (rows : List Str) (n : Nat) (hs : List Hea) : Prop := rows.map (fun r => heapW r n) = hs.map some
theorem heapW_ok {r : Str} {n : Nat} {x : Hea} (h : heapW r n = some x) : (x.t.length = n ∧ x.l.length = n) ∧ 0 ≤ x.s ∧ (∀ v ∈ x.t, 0 ≤ v) ∧ ∀ v ∈ x.l, 0 ≤ v := by
  unfold heapW at h
  split at h
  · rename_i hc
    split at h
    · cases h
    · cases h
      have hl : ((wrd r).drop 3).length = n := by rw [List.length_drop]; omega
      refine ⟨⟨by simp [valsN] at hl ⊢; exact hl, by simp [valsN] at hl ⊢; exact hl⟩, by show (0 : Int) ≤ ((_ : Nat) : Int); omega, fun v hv => ?_, fun v hv => ?_⟩
      · obtain ⟨o, _, rfl⟩ := List.mem_map.mp hv
        omega
      · obtain ⟨o, _, rfl⟩ := List.mem_map.mp hv
        omega
  · cases h
theorem namesW_ok {r : Str} {ns : List Str} (h : namesW r = some ns) : (∀ x ∈ ns, nmB x = true) ∧ ns.length ≤ r.length ∧ ∀ x ∈ ns, x.length ≤ r.length := by
  obtain ⟨_, h2, h3⟩ := sep_sp.len r
  unfold namesW wrd at h
  revert h h2 h3
  generalize Txt.split r sp = ws
  intro h h2 h3
  cases ws with
  | nil => cases h
  | cons w ws =>
    dsimp only at h
    split at h
    · rename_i hc
      cases h
      exact ⟨List.all_eq_true.mp hc.2, by simp at h2; omega, fun x hx => h3 x (List.mem_cons_of_mem _ hx)⟩
    · cases h
theorem read_yard_then {t : Str} (h : t.length ≤ 20000)
    (h0 : ∀ m', namesW (nthS (Txt.split t nl) 0) = none → Kp m m' → Ex (xText 0) m')
    (h1 : ∀ m' ns i, namesW (nthS (Txt.split t nl) 0) = some ns → 1 ≤ i → i < (Txt.split t nl).length → heapW (nthS (Txt.split t nl) i) ns.length = none → (∀ j, 1 ≤ j → j < i → heapW (nthS (Txt.split t nl) j) ns.length ≠ none) → Kp m m' → Ex (xText (i : Nat)) m')
    (h2 : ∀ m' ns hs k, namesW (nthS (Txt.split t nl) 0) = some ns → Rws (Txt.split t nl).tail ns.length hs → k < ns.length → Bad ns k → (∀ j, j < k → ¬ Bad ns j) → Kp m m' → Ex (xDeed k) m')
    (h3 : ∀ m' ns hs, namesW (nthS (Txt.split t nl) 0) = some ns → Rws (Txt.split t nl).tail ns.length hs → (∀ k, k < ns.length → ¬ Bad ns k) → Kp m m' → P (yarD ⟨ns, hs⟩) m') : TriX (m_read_yard [.str t] m) P Ex := by
  refine trix_fn rfl ?_
  obtain ⟨l1, l2, l3⟩ := sep_nl.len t
  have st : ∀ x m, isTy "str" m (.str x) = true := fun x m => rfl
  simp [b_read_yard, st, split_nl h]
  revert h0 h1 h2 h3 l1 l2 l3
  generalize Txt.split t nl = rows
  intro h0 h1 h2 h3 l1 l2 l3
  have gi : ∀ i m, i < rows.length → gIx (wsD rows) (.int (i : Nat)) m = .ok (.str (nthS rows i)) m := fun i m hi => gIx_lst (Y.atI_nat (by rw [List.getElem?_map, nthS_get hi]; rfl))
  have hpos : 0 < rows.length := List.length_pos_iff.mpr l1
  have g0 : ∀ m, gIx (wsD rows) (.int 0) m = .ok (.str (nthS rows 0)) m := fun m => gi 0 m hpos
  have hln : ∀ i, i < rows.length → (nthS rows i).length ≤ 20000 := fun i hi => by have := l3 _ (List.mem_of_getElem? (nthS_get hi)); omega
  have gl : ∀ m, bLen [wsD rows] m = .ok (.int (rows.length : Nat)) m := fun m => by unfold wsD; simp
  simp [b_read_yard_s1, g0, names_in_eq (hln 0 hpos)]
  cases hns : namesW (nthS rows 0) with
  | none =>
    simp [b_read_yard_s2, namD, Mir.isNon]
    exact h0 m hns (Kp.refl m)
  | some ns =>
    obtain ⟨n1, n2, n3⟩ := namesW_ok hns
    have hl0 := hln 0 hpos
    have isn : Mir.isNon (sT ns) = false := rfl
    simp [b_read_yard_s2, namD, isn, b_read_yard_s3]
    have hc1 : (m ++ [Cell.lst []])[m.length]? = some (.lst (([] : List Hea).map heaD)) := by simp
    have hk1 : Kp m (m ++ [Cell.lst []]) := (Kp.refl m).push _
    generalize m ++ [Cell.lst []] = m1 at hc1 hk1
    simp [b_read_yard_s4, gl]
    rw [rng1_big (by omega) hpos]
    simp
    obtain ⟨Inv, hInv⟩ : ∃ I : Nat → Env' → Mem → Prop, ∀ k η m', I k η m' ↔ (Kp m m' ∧ ∃ (hs : List Hea) (e4 e5 e6 : Option D), Rws ((rows.tail).take k) ns.length hs ∧ (∀ j, 1 ≤ j → j < k + 1 → heapW (nthS rows j) ns.length ≠ none) ∧ η = [some (.str t), some (wsD rows), some (sT ns), some (.ref m.length), e4, e5, e6] ∧ m'[m.length]? = some (.lst (hs.map heaD))) := ⟨_, fun _ _ _ => Iff.rfl⟩
    refine for_invX Inv _ ((hInv _ _ _).mpr ⟨hk1, [], _, _, _, rfl, fun j h1 h2 => by omega, rfl, hc1⟩) (fun k d η m2 hkd hI => ?_) (fun η m2 hI => ?_)
    · obtain ⟨hk2, hs, e4, e5, e6, hrw, hpre, rfl, hc2⟩ := (hInv _ _ _).mp hI
      obtain ⟨hkl, rfl⟩ := rng1_get hkd
      have hi : 1 + k < rows.length := by omega
      have ll : ∀ m, bLen [sT ns] m = .ok (.int (ns.length : Nat)) m := fun m => by unfold sT; simp
      have gk : ∀ m, gIx (wsD rows) (.int (1 + (k : Int))) m = .ok (.str (nthS rows (1 + k))) m := fun m => by
        have := gi (1 + k) m hi
        rw [show ((1 + k : Nat) : Int) = 1 + (k : Int) by omega] at this
        exact this
      simp [b_read_yard_0, gk, ll]
      refine heap_in_then (hln (1 + k) hi) fun m3 hk3 => ?_
      have hc3 := hk3.get hc2
      have hk3 := hk2.trans hk3
      cases hx : heapW (nthS rows (1 + k)) ns.length with
      | none =>
        simp [b_read_yard_0s1, heaO, Mir.isNon]
        have q := h1 m3 ns (1 + k) hns (by omega) hi hx (fun j j1 j2 => hpre j j1 (by omega)) hk3
        rw [show ((1 + k : Nat) : Int) = 1 + (k : Int) by omega] at q
        exact q
      | some x =>
        have isn : Mir.isNon (heaD x) = false := rfl
        simp [b_read_yard_0s1, heaO, isn, b_read_yard_0s2, isTy_ref hc3]
        have app : gAppend (.ref m.length) [heaD x] m3 = .ok .non (m3.set m.length (.lst (hs.map heaD ++ [heaD x]))) := append_ref hc3 (by
          have := congrArg List.length hrw
          simp at this
          simp
          omega)
        rw [app]
        simp only [trix_ok]
        have htl : rows.tail[k]? = some (nthS rows (1 + k)) := by
          rw [List.getElem?_tail, show k + 1 = 1 + k by omega]
          exact nthS_get hi
        refine (hInv _ _ _).mpr ⟨hk3.put (Nat.le_refl _) _, hs ++ [x], _, _, _, ?_, fun j j1 j2 => ?_, rfl, by rw [List.getElem?_set_self (List.getElem?_eq_some_iff.mp hc3).1]; simp⟩
        · unfold Rws at hrw ⊢
          rw [List.take_add_one, htl, List.map_append, List.map_append, hrw]
          simp [hx]
        · by_cases e : j = 1 + k
          · rw [e, hx]; simp
          · exact hpre j j1 (by omega)
    · obtain ⟨hk2, hs, e4, e5, e6, hrw, hpre, rfl, hc2⟩ := (hInv _ _ _).mp hI
      have hlen : (rngD 1 (rows.length - 1)).length = rows.length - 1 := by unfold rngD; simp
      rw [hlen, List.take_of_length_le (by simp)] at hrw
      have hhl : hs.length ≤ 20000 := by
        have := congrArg List.length hrw
        simp at this
        omega
      have hok : ∀ x ∈ hs, (x.t.length = ns.length ∧ x.l.length = ns.length) ∧ 0 ≤ x.s ∧ (∀ v ∈ x.t, 0 ≤ v) ∧ ∀ v ∈ x.l, 0 ≤ v := fun x hx => by
        have : some x ∈ rows.tail.map (fun r => heapW r ns.length) := by rw [hrw]; exact List.mem_map.mpr ⟨x, hx, rfl⟩
        obtain ⟨r, _, e⟩ := List.mem_map.mp this
        exact heapW_ok e
      simp [b_read_yard_s5, tuple_ref hc2, b_read_yard_s6]
      have ey : D.tup [sT ns, .tup (hs.map heaD)] = yarD ⟨ns, hs⟩ := rfl
      rw [ey]
      have n2' : ns.length ≤ 30000 := by omega
      refine look_yard_then (y := ⟨ns, hs⟩) (fun x hx => (hok x hx).1) (by show hs.length ≤ 30000; omega) n2' n1 (fun x hx => by have := n3 x hx; omega) (fun x hx => (hok x hx).2) (fun hb => ?_) (fun k hk hb hj => ?_)
      · simp [b_read_yard_s7]
        exact h3 m2 ns hs hns hrw hb hk2
      · exact h2 m2 ns hs k hns hrw hk hb hj hk2
end
end N
end Mir

/-! yards as texts: the text of a yard, as it is written, and read back -/
namespace Mir
namespace N
open PySem PySem.Spec PyProof.Rows L2 Mir Mir.Y
open Mir.V (figB numB fig_mem figL numL_head num_S sp nl tl_sp tl_nl wsD wsD_seq split_eq lineS tl_line joinL_free joinL_len sum_len join_eq)
open NumText
def numS (i : Int) : Str := Str.ofString (toString i)
theorem numS_nat (n : Nat) : numS (n : Nat) = SX.S (TL.numL n) := num_S n
def pairS (a b : Int) : Str := numS a ++ gt ++ numS b
def heapWs (x : Hea) : List Str := heapS :: numS x.s :: colS :: (x.t.zip x.l).map fun p => pairS p.1 p.2
def wordsY (y : Yar) : List (List Str) := (deedsS :: y.d) :: y.h.map heapWs
@[irreducible] def yT (y : Yar) : Str := Txt.join nl ((wordsY y).map lineS)
/-- a yard that is written: its numbers below B -/
structure WrY (B : Int) (y : Yar) : Prop where
  nm : ∀ x ∈ y.d, Nm x
  nd : y.d.length ≤ 20
  hl : y.h.length ≤ 40
  fit : Fit y.d.length y.h
  num : ∀ x ∈ y.h, (0 ≤ x.s ∧ x.s < B) ∧ (∀ v ∈ x.t, 0 ≤ v ∧ v < B) ∧ ∀ v ∈ x.l, 0 ≤ v ∧ v < B
theorem numS_tl {i : Int} (h : 0 ≤ i) : TL.tl (numS i) = TL.numL i.toNat := by
  obtain ⟨n, rfl⟩ : ∃ n : Nat, i = n := ⟨i.toNat, by omega⟩
  rw [numS_nat]
  rfl
theorem numS_len {i : Int} (h : 0 ≤ i) (h2 : i < 10 ^ 10) : (numS i).length ≤ 10 := by
  rw [TL.len_tl, numS_tl h]
  refine TL.numL_len (by decide) ?_
  have : ((10 : Int) ^ 10) = 10000000000 := by decide
  have e : (10 : Nat) ^ 10 = 10000000000 := by decide
  omega
/-- a word of a yard's text -/
structure Wr (x : Str) : Prop where
  len : x.length ≤ 25
  b : 32 ∉ TL.tl x
  n : 10 ∉ TL.tl x
theorem wr_num {i : Int} (h : 0 ≤ i) (h2 : i < 10 ^ 10) : Wr (numS i) := by
  have := numS_len h h2
  exact ⟨by omega, by rw [numS_tl h]; exact TL.numL_free (by decide), by rw [numS_tl h]; exact TL.numL_free (by decide)⟩
theorem wr_nm {x : Str} (h : Nm x) : Wr x := by
  refine ⟨by have := h.hi; omega, fun hm => ?_, fun hm => ?_⟩
  · have := h.let' 32 hm
    revert this; decide
  · have := h.let' 10 hm
    revert this; decide
theorem wr_pair {a b : Int} (ha : 0 ≤ a) (ha2 : a < 10 ^ 10) (hb : 0 ≤ b) (hb2 : b < 10 ^ 10) : Wr (pairS a b) := by
  have l1 := numS_len ha ha2
  have l2 := numS_len hb hb2
  have e : TL.tl (pairS a b) = TL.numL a.toNat ++ ([62] ++ TL.numL b.toNat) := by
    unfold pairS
    rw [TL.tl_append, TL.tl_append, numS_tl ha, numS_tl hb, sep_gt.tl, List.append_assoc]
  refine ⟨?_, ?_, ?_⟩
  · rw [TL.len_tl, e]
    rw [TL.len_tl, numS_tl ha] at l1
    rw [TL.len_tl, numS_tl hb] at l2
    simp
    omega
  · rw [e]
    simp only [List.mem_append, List.mem_singleton, not_or]
    exact ⟨TL.numL_free (by decide), by decide, TL.numL_free (by decide)⟩
  · rw [e]
    simp only [List.mem_append, List.mem_singleton, not_or]
    exact ⟨TL.numL_free (by decide), by decide, TL.numL_free (by decide)⟩
theorem wr_c {x : Str} (h : x ∈ [heapS, colS, deedsS]) : Wr x := by
  have : ∀ x ∈ [heapS, colS, deedsS], x.length ≤ 25 ∧ 32 ∉ TL.tl x ∧ 10 ∉ TL.tl x := by decide +kernel
  obtain ⟨h1, h2, h3⟩ := this x h
  exact ⟨h1, h2, h3⟩
theorem zip_mem {x : Hea} {B : Int} (h : (∀ v ∈ x.t, 0 ≤ v ∧ v < B) ∧ ∀ v ∈ x.l, 0 ≤ v ∧ v < B) {p : Int × Int} (hp : p ∈ x.t.zip x.l) : (0 ≤ p.1 ∧ p.1 < B) ∧ 0 ≤ p.2 ∧ p.2 < B := by
  obtain ⟨h1, h2⟩ := List.of_mem_zip (a := p.1) (b := p.2) hp
  exact ⟨h.1 _ h1, h.2 _ h2⟩
theorem WrY.wr {B : Int} {y : Yar} (w : WrY B y) (hB : B ≤ 10 ^ 10) : ∀ l ∈ wordsY y, (∀ x ∈ l, Wr x) ∧ l.length ≤ 23 ∧ l ≠ [] := fun l hl => by
  have nd := w.nd
  rcases List.mem_cons.mp hl with rfl | hl
  · refine ⟨fun x hx => ?_, by simp; omega, by simp⟩
    rcases List.mem_cons.mp hx with rfl | hx
    · exact wr_c (by simp)
    · exact wr_nm (w.nm x hx)
  · obtain ⟨h, hh, rfl⟩ := List.mem_map.mp hl
    obtain ⟨n1, n2⟩ := w.num h hh
    obtain ⟨f1, f2⟩ := w.fit h hh
    refine ⟨fun x hx => ?_, by unfold heapWs; simp; omega, by unfold heapWs; simp⟩
    unfold heapWs at hx
    simp only [List.mem_cons, List.mem_map] at hx
    rcases hx with rfl | rfl | rfl | ⟨p, hp, rfl⟩
    · exact wr_c (by simp)
    · exact wr_num n1.1 (by omega)
    · exact wr_c (by simp)
    · obtain ⟨q1, q2⟩ := zip_mem n2 hp
      exact wr_pair q1.1 (by omega) q2.1 (by omega)
theorem line_free {ws : List Str} (h : ∀ x ∈ ws, Wr x) : 10 ∉ TL.tl (lineS ws) := by
  rw [tl_line]
  refine joinL_free (by decide) fun p hp => ?_
  obtain ⟨x, hx, rfl⟩ := List.mem_map.mp hp
  exact (h x hx).n
theorem line_wrd {ws : List Str} (hne : ws ≠ []) (h : ∀ x ∈ ws, Wr x) : wrd (lineS ws) = ws := TL.split_join tl_sp (by decide +kernel) hne fun p hp => (h p hp).b
theorem rows_split {B : Int} {y : Yar} (w : WrY B y) (hB : B ≤ 10 ^ 10) : Txt.split (yT y) nl = (wordsY y).map lineS := by
  unfold yT
  exact TL.split_join tl_nl (by decide +kernel) (by unfold wordsY; simp) fun p hp => by
    obtain ⟨l, hl, rfl⟩ := List.mem_map.mp hp
    exact line_free (w.wr hB l hl).1
/-! ### read back -/
theorem fig_numS {i : Int} (h : 0 ≤ i) (h2 : i < 10 ^ 9) : cntW (numS i) = some i.toNat := by
  have hl : (TL.numL i.toNat).length ≤ 9 := TL.numL_len (by decide) (by
    have : ((10 : Int) ^ 9) = 1000000000 := by decide
    have e : (10 : Nat) ^ 9 = 1000000000 := by decide
    omega)
  unfold cntW
  rw [numS_tl h]
  have hf : figB (TL.numL i.toNat) 9 = true := by
    have h2 := TL.numL_ne i.toNat
    have h3 := TL.numL_digits i.toNat
    have hp : 0 < (TL.numL i.toNat).length := List.length_pos_iff.mpr h2
    unfold figB
    have e1 : decide (1 ≤ ((TL.numL i.toNat).length : Int)) = true := decide_eq_true (by omega)
    have e2 : decide (((TL.numL i.toNat).length : Int) ≤ 9) = true := decide_eq_true (by omega)
    have e3 : (TL.numL i.toNat).all (fun c => decide (c ∈ figL)) = true := List.all_eq_true.mpr fun c hc => decide_eq_true ((fig_mem c).mpr (h3 c hc))
    rw [e1, e2, e3]
    rcases numL_head i.toNat with e | ⟨c, r, e, hc⟩
    · rw [e]; rfl
    · rw [e]
      simp [hc]
  rw [if_pos hf, TL.numL_val]
theorem part_pair {a b : Int} (ha : 0 ≤ a) : Txt.partition (pairS a b) gt = (numS a, gt, numS b) := TL.partition_app sep_gt.tl (by rw [numS_tl ha]; exact TL.numL_free (by decide))
theorem names_back {ns : List Str} (h : ∀ x ∈ ns, Nm x) : namesW (lineS (deedsS :: ns)) = some ns := by
  unfold namesW
  rw [line_wrd (by simp) (fun x hx => by
    rcases List.mem_cons.mp hx with rfl | hx
    · exact wr_c (by simp)
    · exact wr_nm (h x hx))]
  show (if deedsS = deedsS ∧ ns.all nmB = true then some ns else none) = _
  rw [if_pos ⟨rfl, List.all_eq_true.mpr fun x hx => nmB_iff.mpr (h x hx)⟩]
theorem heap_back {x : Hea} {n : Nat} (ht : x.t.length = n) (hl : x.l.length = n) (hn : (0 ≤ x.s ∧ x.s < 10 ^ 9) ∧ (∀ v ∈ x.t, 0 ≤ v ∧ v < 10 ^ 9) ∧ ∀ v ∈ x.l, 0 ≤ v ∧ v < 10 ^ 9) (hw : ∀ z ∈ heapWs x, Wr z) : heapW (lineS (heapWs x)) n = some x := by
  unfold heapW
  rw [line_wrd (by unfold heapWs; simp) hw]
  have e0 : nthS (heapWs x) 0 = heapS := rfl
  have e1 : nthS (heapWs x) 1 = numS x.s := rfl
  have e2 : nthS (heapWs x) 2 = colS := rfl
  have e3 : (heapWs x).drop 3 = (x.t.zip x.l).map fun p => pairS p.1 p.2 := rfl
  have el : (heapWs x).length = 3 + n := by unfold heapWs; simp; omega
  have et : ((x.t.zip x.l).map fun p => pairS p.1 p.2).map tkW = x.t.map fun v => some v.toNat := by
    rw [List.map_map]
    have : (x.t.zip x.l).map (tkW ∘ fun p => pairS p.1 p.2) = (x.t.zip x.l).map (fun p => some p.1.toNat) := List.map_congr_left fun p hp => by
      obtain ⟨q1, q2⟩ := zip_mem hn.2 hp
      show cntW (Txt.partition (pairS p.1 p.2) gt).1 = _
      rw [part_pair q1.1]
      exact fig_numS q1.1 q1.2
    rw [this]
    have z : (x.t.zip x.l).map (fun p => some p.1.toNat) = ((x.t.zip x.l).map (·.1)).map fun v => some v.toNat := by rw [List.map_map]; rfl
    rw [z, List.map_fst_zip (by omega)]
  have ell : ((x.t.zip x.l).map fun p => pairS p.1 p.2).map lkW = x.l.map fun v => some v.toNat := by
    rw [List.map_map]
    have : (x.t.zip x.l).map (lkW ∘ fun p => pairS p.1 p.2) = (x.t.zip x.l).map (fun p => some p.2.toNat) := List.map_congr_left fun p hp => by
      obtain ⟨q1, q2⟩ := zip_mem hn.2 hp
      show cntW (Txt.partition (pairS p.1 p.2) gt).2.2 = _
      rw [part_pair q1.1]
      exact fig_numS q2.1 q2.2
    rw [this]
    have z : (x.t.zip x.l).map (fun p => some p.2.toNat) = ((x.t.zip x.l).map (·.2)).map fun v => some v.toNat := by rw [List.map_map]; rfl
    rw [z, List.map_snd_zip (by omega)]
  have back : ∀ vs : List Int, (∀ v ∈ vs, 0 ≤ v ∧ v < 10 ^ 9) → valsN (vs.map fun v => some v.toNat) = vs := fun vs h => by
    unfold valsN
    rw [List.map_map]
    refine (List.map_congr_left fun v hv => ?_).trans (List.map_id _)
    have := (h v hv).1
    show ((v.toNat : Nat) : Int) = v
    omega
  rw [e0, e1, e2, e3, et, ell, fig_numS hn.1.1 hn.1.2, if_pos ⟨el, rfl, rfl⟩, if_neg (by simp), back _ hn.2.1, back _ hn.2.2]
  congr 1
  have := hn.1.1
  show Hea.mk ((x.s.toNat : Nat) : Int) x.t x.l = x
  rw [show ((x.s.toNat : Nat) : Int) = x.s by omega]
section
variable {m : Mem} {P : D → Mem → Prop} {Ex : Exn → Mem → Prop}
theorem read_back_then {y : Yar} (w : WrY (10 ^ 9) y) (up : Nms y.d) (hlen : (yT y).length ≤ 2000) (h : ∀ m', Kp m m' → P (yarD y) m') : TriX (m_read_yard [.str (yT y)] m) P Ex := by
  have hs := rows_split w (by decide)
  have hw := w.wr (by decide)
  have e0 : nthS ((wordsY y).map lineS) 0 = lineS (deedsS :: y.d) := rfl
  have hn := names_back w.nm
  have hb : ∀ x ∈ y.h, heapW (lineS (heapWs x)) y.d.length = some x := fun x hx => by
    obtain ⟨f1, f2⟩ := w.fit x hx
    exact heap_back f1 f2 (w.num x hx) (hw _ (List.mem_cons_of_mem _ (List.mem_map.mpr ⟨x, hx, rfl⟩))).1
  have hr : Rws ((wordsY y).map lineS).tail y.d.length y.h := by
    show ((y.h.map heapWs).map lineS).map (fun r => heapW r y.d.length) = y.h.map some
    rw [List.map_map, List.map_map]
    exact List.map_congr_left fun x hx => hb x hx
  have uniq : ∀ hs', Rws ((wordsY y).map lineS).tail y.d.length hs' → hs' = y.h := fun hs' h => by
    unfold Rws at h hr
    rw [hr] at h
    exact ((List.map_inj_right fun _ _ => Option.some.inj).mp h).symm
  refine read_yard_then (by omega) (fun m' h0 => ?_) (fun m' ns i h0 h1 h2 h3 => ?_) (fun m' ns hs' k h0 h1 h2 h3 => ?_) (fun m' ns hs' h0 h1 h2 hk => ?_)
  · rw [hs, e0, hn] at h0
    cases h0
  · rw [hs, e0, hn] at h0
    cases h0
    rw [hs] at h2 h3
    exfalso
    obtain ⟨j, rfl⟩ : ∃ j, i = j + 1 := ⟨i - 1, by omega⟩
    have hi : j < y.h.length := by simp [wordsY] at h2; omega
    have hg := List.getElem?_eq_getElem hi
    have : nthS ((wordsY y).map lineS) (j + 1) = lineS (heapWs y.h[j]) := by
      unfold nthS wordsY
      rw [List.map_cons, List.getD_cons_succ, List.getD_eq_getElem?_getD, List.getElem?_map, List.getElem?_map, hg]
      rfl
    rw [this, hb _ (List.getElem_mem _)] at h3
    cases h3
  · rw [hs, e0, hn] at h0
    cases h0
    exact absurd h3 (up_bad up k h2)
  · rw [hs, e0, hn] at h0
    cases h0
    rw [hs] at h1
    rw [uniq _ h1]
    exact h m' hk
end
end N
end Mir

/-! yards as texts: yard_text, and the law's own -/
namespace Mir
namespace N
open PySem PySem.Spec PyProof.Rows L2 Mir Mir.Y
open Mir.V (sp nl wsD wsD_seq split_eq lineS sum_len join_eq loopE_map bList_f)
/-- an elementwise comprehension whose element may use new memory -/
theorem comp_mapK {α : Type} {g : GM} {t : TM} {e : EM} {η : Env'} {m : Mem} {P : List D → Mem → Prop} (emb f : α → D) (xs : List α) (hl : xs.length ≤ 900000)
    (h : ∀ x ∈ xs, ∀ m', Kp m m' → ∃ η1, g (emb x) η m' = .ok η1 m' ∧ t η1 m' = .ok true m' ∧ Tri (noX (e η1 m')) fun y m2 => y = f x ∧ Kp m' m2)
    (hP : ∀ m', Kp m m' → P (xs.map f) m') : Tri (compD g t e η (xs.map emb) m []) P := by
  have gen : ∀ (ys : List α) (acc : List D) (m1 : Mem), (∀ x ∈ ys, x ∈ xs) → acc.length + ys.length ≤ 900000 → Kp m m1 → Tri (compD g t e η (ys.map emb) m1 acc) fun d m2 => d = acc ++ ys.map f ∧ Kp m m2 := by
    intro ys
    induction ys with
    | nil => exact fun acc m1 _ _ hk => by simp [compD]; exact hk
    | cons y ys ih =>
      intro acc m1 hs hlen hk
      obtain ⟨η1, e1, e2, e3⟩ := h y (hs y (by simp)) m1 hk
      have hlt : acc.length < sizeLine := size_lt (by simp at hlen; omega)
      simp only [List.map_cons, compD, e1, noX_ok, bind_ok, e2, if_true]
      rw [tri_bind]
      refine e3.mono ?_
      rintro _ m2 ⟨rfl, hk2⟩
      rw [if_pos hlt]
      refine (ih (acc ++ [f y]) m2 (fun x hx => hs x (List.mem_cons_of_mem _ hx)) (by simp at hlen ⊢; omega) (hk.trans hk2)).mono ?_
      rintro d m3 ⟨rfl, hk3⟩
      exact ⟨by simp, hk3⟩
  refine (gen xs [] m (fun _ h => h) (by simpa using hl) (Kp.refl m)).mono ?_
  rintro d m2 ⟨rfl, hk⟩
  exact hP m2 hk
section
variable {m : Mem} {P : D → Mem → Prop} {Ex : Exn → Mem → Prop}
theorem bStr_num {i : Int} (h : 0 ≤ i) (h2 : i < 10 ^ 10) (m : Mem) : bStr [.int i] m = .ok (.str (numS i)) m := by
  show (if i.natAbs.log2 < 1920 then R.ok (D.str (Str.ofString (toString i))) m else R.stk) = _
  rw [if_pos]
  · rfl
  · have e : ((10 : Int) ^ 10) = 10000000000 := by decide
    have h3 : i.natAbs < 2 ^ 40 := by
      have : (2 : Nat) ^ 40 = 1099511627776 := by decide
      omega
    have : i.natAbs.log2 < 41 := by
      rcases Nat.eq_zero_or_pos i.natAbs with z | z
      · rw [z]; decide
      · exact Nat.lt_of_lt_of_le (Nat.log2_lt (by omega) |>.mpr h3) (by decide)
    omega
/-! ### yards turned about -/
end
end N
end Mir

/-! texts spoilt: what is common to laws of texts that tell nothing (out of Pk15) -/
namespace Mir
namespace N
open PySem PySem.Spec PyProof.Rows L2 Mir Mir.Y
open Mir.V (sp nl)
theorem add_lst {xs ys : List D} (h : xs.length + ys.length ≤ 1000000) (m : Mem) : gAdd false (.lst xs) (.lst ys) m = .ok (.lst (xs ++ ys)) m := cat_own rfl rfl h
def Asc (t : Str) : Prop := ∀ c ∈ TL.tl t, c < 1114112
theorem Asc.ok {t : Str} (h : Asc t) : PyData.strOk t = true := by
  rw [Mir.N.mk_S t]
  exact Mir.strOk_S h
theorem spl_sub (c : Nat) : ∀ (l acc : List Nat), ∀ y ∈ TL.spl [c] 0 acc l, ∀ z ∈ y, z ∈ acc ∨ z ∈ l
  | [], acc, y, hy, z, hz => by
    rw [TL.spl_nil] at hy
    have : y = acc := by simpa using hy
    subst this
    exact .inl hz
  | x :: l, acc, y, hy, z, hz => by
    by_cases h : x = c
    · rw [TL.spl_hit (by rw [Mir.N.pre1, decide_eq_true h])] at hy
      rcases List.mem_cons.mp hy with rfl | hy
      · exact .inl hz
      · rcases spl_sub c l [] y hy z hz with q | q
        · cases q
        · exact .inr (List.mem_cons_of_mem _ q)
    · rw [TL.spl_miss (by rw [Mir.N.pre1, decide_eq_false h])] at hy
      rcases spl_sub c l _ y hy z hz with q | q
      · rcases List.mem_append.mp q with q | q
        · exact .inl q
        · exact .inr (by rw [List.mem_singleton.mp q]; exact List.mem_cons_self)
      · exact .inr (List.mem_cons_of_mem _ q)
theorem Asc.split {t y : Str} {c : Nat} (h : Asc t) (s : Sep y c) {w : Str} (hw : w ∈ Txt.split t y) : Asc w := fun z hz => by
  have hm : TL.tl w ∈ TL.spl [c] 0 [] (TL.tl t) := by rw [← s.spl t]; exact List.mem_map.mpr ⟨w, hw, rfl⟩
  rcases spl_sub c _ _ _ hm z hz with q | q
  · cases q
  · exact h z q
def Turn (xs : List Str) (x : Str) (ys : List Str) : Prop := (∀ y ∈ ys, y = x ∨ y ∈ xs) ∧ ys.length ≤ xs.length + 1 ∧ ∀ f : Str → Nat, (ys.map f).sum ≤ 2 * (xs.map f).sum + f x
end N
end Mir

/-! papers read: fractions of any text, a paper of any text -/
namespace Mir
namespace Pp
open PySem PySem.Spec PyProof.Rows L2 Mir Mir.Y PySem.NumText
open Mir.Fr (qD QB)
open Mir.V (figL figB numB wsD sp nl)
open Mir.N (nthS wrd Sep sep_sp sep_nl nmB Asc)
theorem commonE : m_common = Mir.Fr.m_common := rfl
theorem par_none (c : Nat) : ∀ (l acc : List Nat), c ∉ l → TL.par [c] acc l = none
  | [], acc, _ => rfl
  | x :: l, acc, h => by
    have hx : x ≠ c := fun e => h (by rw [e]; exact List.mem_cons_self)
    unfold TL.par
    rw [Mir.N.pre1, decide_eq_false hx, if_neg Bool.false_ne_true]
    exact par_none c l _ (fun q => h (List.mem_cons_of_mem _ q))
theorem par_some (c : Nat) (b : List Nat) : ∀ (a acc : List Nat), c ∉ a → TL.par [c] acc (a ++ c :: b) = some (acc ++ a, b)
  | [], acc, _ => by
    show TL.par [c] acc (c :: b) = _
    unfold TL.par
    rw [Mir.N.pre1, decide_eq_true rfl, if_pos rfl]
    simp
  | x :: a, acc, h => by
    have hx : x ≠ c := fun e => h (by rw [e]; exact List.mem_cons_self)
    show TL.par [c] acc (x :: (a ++ c :: b)) = _
    unfold TL.par
    rw [Mir.N.pre1, decide_eq_false hx, if_neg Bool.false_ne_true, par_some c b a (acc ++ [x]) (fun q => h (List.mem_cons_of_mem _ q))]
    simp
theorem spl_none (c : Nat) : ∀ (l acc : List Nat), c ∉ l → TL.spl [c] 0 acc l = [acc ++ l]
  | [], acc, _ => by rw [TL.spl_nil]; simp
  | x :: l, acc, h => by
    have hx : x ≠ c := fun e => h (by rw [e]; exact List.mem_cons_self)
    rw [TL.spl_miss (by rw [Mir.N.pre1, decide_eq_false hx]), spl_none c l _ (fun q => h (List.mem_cons_of_mem _ q))]
    simp
theorem spl_some (c : Nat) (b : List Nat) : ∀ (a acc : List Nat), c ∉ a → TL.spl [c] 0 acc (a ++ c :: b) = (acc ++ a) :: TL.spl [c] 0 [] b
  | [], acc, _ => by
    show TL.spl [c] 0 acc (c :: b) = _
    rw [TL.spl_hit (by rw [Mir.N.pre1, decide_eq_true rfl])]
    simp
  | x :: a, acc, h => by
    have hx : x ≠ c := fun e => h (by rw [e]; exact List.mem_cons_self)
    show TL.spl [c] 0 acc (x :: (a ++ c :: b)) = _
    rw [TL.spl_miss (by rw [Mir.N.pre1, decide_eq_false hx]), spl_some c b a (acc ++ [x]) (fun q => h (List.mem_cons_of_mem _ q))]
    simp
theorem spl_two (c : Nat) {b : List Nat} (h : c ∈ b) : ∃ x y r, TL.spl [c] 0 [] b = x :: y :: r := by
  obtain ⟨p, q, rfl, hp⟩ := List.eq_append_cons_of_mem h
  rw [spl_some c q p [] hp]
  by_cases hq : c ∈ q
  · obtain ⟨p2, q2, rfl, hp2⟩ := List.eq_append_cons_of_mem hq
    rw [spl_some c q2 p2 [] hp2]
    exact ⟨_, _, _, rfl⟩
  · rw [spl_none c q [] hq]
    exact ⟨_, _, _, rfl⟩
theorem zero_S : Str.ofString "0" = SX.S [48] := by decide +kernel
theorem minus_S : Str.ofString "-" = SX.S [45] := by decide +kernel
theorem slash_S : Str.ofString "/" = SX.S [47] := by decide +kernel
theorem empty_S : Str.ofString "" = SX.S [] := by decide +kernel
def pairD (u w : D) : D := match u, w with
  | .int u, .int w => if 2 ≤ w ∧ Int.gcd u w = 1 then .tup [.int u, .int w] else .non
  | _, _ => .non
def oneD (u : D) : D := match u with
  | .int u => .tup [.int u, .int 1]
  | _ => .non
theorem figB_slash {l : List Nat} (k : Int) (h : 47 ∈ l) : figB l k = false := by
  have : l.all (fun c => decide (c ∈ figL)) = false := by
    rw [List.all_eq_false]
    exact ⟨47, h, by decide⟩
  unfold figB
  rw [this]
  simp
theorem numB_slash {l : List Nat} (k : Int) (h : 47 ∈ l) : numB l k = .non := by
  unfold numB
  split
  · rename_i hm
    have ht : 47 ∈ l.tail := by
      cases l with
      | nil => simp at h
      | cons c r =>
        simp at hm
        simp [hm] at h
        exact h
    rw [if_neg]
    rw [figB_slash k ht]
    simp
  · rw [figB_slash k h]
    simp
theorem val_lt : ∀ (l : List Nat) (acc : Nat), AllDigits l → l.foldl (fun acc c => acc * 10 + (c - 48)) acc < (acc + 1) * 10 ^ l.length
  | [], acc, _ => by simp
  | c :: l, acc, h => by
    have hc := h c List.mem_cons_self
    have ih := val_lt l (acc * 10 + (c - 48)) (fun x hx => h x (List.mem_cons_of_mem _ hx))
    rw [List.foldl_cons, List.length_cons, Nat.pow_succ]
    refine Nat.lt_of_lt_of_le ih ?_
    rw [Nat.mul_comm (10 ^ l.length) 10, ← Nat.mul_assoc]
    exact Nat.mul_le_mul_right _ (by omega)
theorem fig_lt {l : List Nat} (h : figB l 30 = true) : digitsVal l < 2 ^ 8999 := by
  have h1 := val_lt l 0 (Mir.V.figB_ok h).1
  have h2 := Mir.V.figB_len h
  have h3 : digitsVal l < (0 + 1) * 10 ^ l.length := h1
  have h4 : 10 ^ l.length ≤ 10 ^ 30 := Nat.pow_le_pow_right (by decide) (by omega)
  have h5 : (10 : Nat) ^ 30 < 2 ^ 100 := by decide
  have h6 : (2 : Nat) ^ 100 ≤ 2 ^ 8999 := Nat.pow_le_pow_right (by decide) (by decide)
  rw [Nat.zero_add, Nat.one_mul] at h3
  exact Nat.lt_of_lt_of_le (Nat.lt_of_lt_of_le h3 h4) (Nat.le_trans (Nat.le_of_lt h5) h6)
theorem numB_cases (l : List Nat) : numB l 30 = .non ∨ ∃ n : Int, numB l 30 = .int n ∧ n.natAbs < 2 ^ 8999 := by
  unfold numB
  split
  · split
    · rename_i h
      refine .inr ⟨_, rfl, ?_⟩
      rw [Int.zero_sub, Int.natAbs_neg, Int.natAbs_natCast]
      exact fig_lt h.1
    · exact .inl rfl
  · split
    · rename_i h
      refine .inr ⟨_, rfl, ?_⟩
      rw [Int.natAbs_natCast]
      exact fig_lt h
    · exact .inl rfl
theorem fraction_of_one {m : Mem} {l : List Nat} (h : l.length ≤ 20000) (hs : 47 ∉ l) : m_fraction_of [.str (SX.S l)] m = .ok (oneD (numB l 30)) m := by
  have key : Tri (m_fraction_of [.str (SX.S l)] m) (fun r m' => r = oneD (numB l 30) ∧ m' = m) := by
    refine tri_fn rfl ?_
    have hp : gPartition (.str (SX.S l)) [.str (Str.ofString "/")] m = .ok (.tup [.str (SX.S l), .str (SX.S []), .str (SX.S [])]) m := by
      unfold gPartition
      rw [slash_S]
      simp only [SX.partition_none (a := l) (b := [47]) (by simp) (par_none 47 l [] hs)]
      rw [if_pos ⟨by rfl, by rw [SX.S_len]; exact size_le (by omega)⟩]
    have a2 : ∀ (a b c : D), arr [0, 1] [a, b, c] = [a, b] := fun _ _ _ => rfl
    have hg : gd_MOST_FIGURES = .int 30 := rfl
    simp [b_fraction_of, isTy, hp, b_fraction_of_s1, a2, hg, Mir.V.number_of_big (m := m) (k := 30) h (by decide), b_fraction_of_s2, b_fraction_of_s3, empty_S]
    rcases numB_cases l with e | ⟨n, e, _⟩
    · simp [e, Mir.isNon, oneD]
    · simp [e, Mir.isNon, oneD]
  obtain ⟨r, m', e, rfl, rfl⟩ := key.ex
  exact e
theorem fraction_of_two {m : Mem} {a b : List Nat} (h : a.length ≤ 20000) (h2 : b.length ≤ 20000) (hs : 47 ∉ a) : m_fraction_of [.str (SX.S (a ++ 47 :: b))] m = .ok (pairD (numB a 30) (numB b 30)) m := by
  have key : Tri (m_fraction_of [.str (SX.S (a ++ 47 :: b))] m) (fun r m' => r = pairD (numB a 30) (numB b 30) ∧ m' = m) := by
    refine tri_fn rfl ?_
    have hp : gPartition (.str (SX.S (a ++ 47 :: b))) [.str (Str.ofString "/")] m = .ok (.tup [.str (SX.S a), .str (SX.S [47]), .str (SX.S b)]) m := by
      unfold gPartition
      rw [slash_S]
      simp only [SX.partition_some (a := a ++ 47 :: b) (b := [47]) (by simp) (par_some 47 b a [] hs)]
      rw [if_pos ⟨by rfl, by rw [SX.S_len]; exact size_le (by simp; omega)⟩]
      rfl
    have a2 : ∀ (a b c : D), arr [0, 1] [a, b, c] = [a, b] := fun _ _ _ => rfl
    have hg : gd_MOST_FIGURES = .int 30 := rfl
    have hsz : 2 ≤ sizeLine := size_le (by decide)
    simp [b_fraction_of, isTy, hp, b_fraction_of_s1, a2, hg, Mir.V.number_of_big (m := m) (l := a) (k := 30) (by omega) (by decide), b_fraction_of_s2, b_fraction_of_s3, empty_S]
    rcases numB_cases a with e | ⟨n, e, hn⟩
    · simp [e, Mir.isNon, pairD]
    · simp [e, Mir.isNon, b_fraction_of_s4, a2, hg, Mir.V.number_of_big (m := m) (l := b) (k := 30) (by omega) (by decide), b_fraction_of_s5]
      rcases numB_cases b with e2 | ⟨w, e2, hw⟩
      · simp [e2, Mir.isNon, pairD]
      · simp [e2, Mir.isNon, pairD]
        by_cases hw2 : w < 2
        · have : ¬ 2 ≤ w := by omega
          simp [hw2, this]
        · have hw3 : 2 ≤ w := by omega
          simp [hw2, hw3, commonE]
          rw [Mir.Fr.common_eq hw]
          simp
          by_cases hg1 : Int.gcd n w = 1
          · simp [hg1, b_fraction_of_s6, hsz]
          · have : ¬ ((Int.gcd n w : Nat) : Int) = 1 := by omega
            simp [hg1, this]
  obtain ⟨r, m', e, rfl, rfl⟩ := key.ex
  exact e
theorem split_any (l : List Nat) : (47 ∉ l ∧ TL.spl [47] 0 [] l = [l]) ∨ ∃ a b, l = a ++ 47 :: b ∧ 47 ∉ a ∧ TL.spl [47] 0 [] l = a :: TL.spl [47] 0 [] b := by
  by_cases h : 47 ∈ l
  · obtain ⟨a, b, rfl, ha⟩ := List.eq_append_cons_of_mem h
    exact .inr ⟨a, b, rfl, ha, by rw [spl_some 47 b a [] ha]; simp⟩
  · exact .inl ⟨h, by rw [spl_none 47 l [] h]; simp⟩
theorem spl_len : ∀ (n : Nat) (l : List Nat), l.length ≤ n → ∀ y ∈ TL.spl [47] 0 [] l, y.length ≤ n
  | n, l, hl, y, hy => by
    rcases split_any l with ⟨_, e⟩ | ⟨a, b, rfl, ha, e⟩
    · rw [e] at hy
      simp at hy
      subst hy
      exact hl
    · rw [e] at hy
      rcases List.mem_cons.mp hy with rfl | hy
      · simp at hl; omega
      · have hb : b.length < (a ++ 47 :: b).length := by simp; omega
        exact spl_len n b (by omega) y hy
termination_by n l => l.length
theorem pair_non (u : D) : pairD u .non = .non := by cases u <;> rfl
/-- the fraction of a word -/
def frP : List (List Nat) → D
  | [a] => oneD (numB a 30)
  | [a, b] => pairD (numB a 30) (numB b 30)
  | _ => .non
def frD (l : List Nat) : D := frP (TL.spl [47] 0 [] l)
theorem fraction_eq {m : Mem} {l : List Nat} (h : l.length ≤ 20000) : m_fraction_of [.str (SX.S l)] m = .ok (frD l) m := by
  unfold frD
  rcases split_any l with ⟨hs, e⟩ | ⟨a, b, rfl, ha, e⟩
  · rw [e]
    exact fraction_of_one h hs
  · rw [e]
    have hl : (a ++ 47 :: b).length = a.length + (b.length + 1) := by simp
    rw [fraction_of_two (by omega) (by omega) ha]
    by_cases hb : 47 ∈ b
    · obtain ⟨x, y, r, hr⟩ := spl_two 47 hb
      rw [hr, numB_slash 30 hb, pair_non]
      rfl
    · rw [spl_none 47 b [] hb]
      rfl
def frO : List Nat → Option (Int × Int) := fun l => match frD l with
  | .tup [.int u, .int w] => some (u, w)
  | _ => none
def foD : Option (Int × Int) → D
  | some (u, w) => .tup [.int u, .int w]
  | none => .non
theorem one_cases (u : D) : oneD u = .non ∨ ∃ a b : Int, oneD u = .tup [.int a, .int b] := by
  cases u with
  | int u => exact .inr ⟨_, _, rfl⟩
  | _ => exact .inl rfl
theorem pair_cases (u w : D) : pairD u w = .non ∨ ∃ a b : Int, pairD u w = .tup [.int a, .int b] := by
  unfold pairD
  split
  · split
    · exact .inr ⟨_, _, rfl⟩
    · exact .inl rfl
  · exact .inl rfl
theorem fr_foD (l : List Nat) : frD l = foD (frO l) := by
  have h : frD l = .non ∨ ∃ a b : Int, frD l = .tup [.int a, .int b] := by
    unfold frD frP
    split
    · exact one_cases _
    · exact pair_cases _ _
    · exact .inl rfl
  unfold frO
  rcases h with e | ⟨a, b, e⟩
  · rw [e]; rfl
  · rw [e]; rfl
/-- the fraction of a word, if it is one -/
def frW (w : Str) : Option (Int × Int) := frO (TL.tl w)
theorem frac_w {m : Mem} {w : Str} (h : w.length ≤ 20000) : m_fraction_of [.str w] m = .ok (foD (frW w)) m := by
  have := fraction_eq (m := m) (l := TL.tl w) (by rw [← TL.len_tl]; exact h)
  rw [← Mir.N.mk_S w, fr_foD] at this
  exact this
theorem none_in (m : Mem) (os : List (Option (Int × Int))) : gIn false .non (.lst (os.map foD)) m = .ok (.bl (decide (none ∈ os))) m := by
  have h5 : flatD .non = some .non := rfl
  by_cases hall : ∀ o ∈ os, o = none
  · have e : os.map foD = os.map fun _ => D.non := List.map_congr_left fun o ho => by rw [hall o ho]; rfl
    have h1 : mapO flatD (os.map fun _ => D.non) = some (os.map fun _ => V.non) := mapO_map (f := flatD) (g := fun _ => D.non) (h := fun _ => V.non) (fun _ => rfl) os
    have h2 : inV .non (os.map fun _ => V.non) = decide (none ∈ os) := by
      cases os with
      | nil => rfl
      | cons o r =>
        have := hall o List.mem_cons_self
        subst this
        simp [inV, eqV]
    rw [e]
    show bR false m (inOf m .non (.lst (os.map fun _ => D.non))) = _
    simp [inOf, lstOf, flatIn, h1, h5, bR, -List.map_const']
    exact h2
  · have hex : ∃ o, o ∈ os ∧ o ≠ none := Classical.byContradiction fun z => hall fun o ho => Classical.byContradiction fun z2 => z ⟨o, ho, z2⟩
    have h1 : ∀ os : List (Option (Int × Int)), (∃ o, o ∈ os ∧ o ≠ none) → mapO flatD (os.map foD) = none := fun os => by
      induction os with
      | nil => rintro ⟨o, h, _⟩; cases h
      | cons o r ih =>
        rintro ⟨x, hx, hn⟩
        cases o with
        | some p => rfl
        | none =>
          have : ∃ o, o ∈ r ∧ o ≠ none := by
            rcases List.mem_cons.mp hx with rfl | hx
            · exact absurd rfl hn
            · exact ⟨x, hx, hn⟩
          have q := ih this
          simp [mapO, q]
    have h2 : mapO (toP m 59) (os.map foD) = some (os.map fun o => match o with
      | some (u, w) => PyData.tuple [.int u, .int w]
      | none => PyData.none) := mapO_map (f := toP m 59) (g := foD) (h := fun o => match o with
      | some (u, w) => PyData.tuple [.int u, .int w]
      | none => PyData.none) (fun o => by
        cases o with
        | none => rfl
        | some p => rfl) os
    have h3 : ∀ os : List (Option (Int × Int)), ((os.map fun o => match o with
      | some (u, w) => PyData.tuple [.int u, .int w]
      | none => PyData.none).any fun z => PyData.eqv z .none) = decide (none ∈ os) := fun os => by
      induction os with
      | nil => rfl
      | cons o r ih =>
        rw [List.map_cons, List.any_cons, ih]
        cases o with
        | none => simp [PyData.eqv]
        | some p => simp [PyData.eqv]
    have h4 : toP m 60 .non = some .none := rfl
    show bR false m (inOf m .non (.lst (os.map foD))) = _
    simp only [inOf, lstOf, flatIn, h1 os hex, h5, inSeq, h2, h4, h3, bR]
    simp
/-- a row that begins with a word, and its fractions -/
def frsW (r w : Str) : Option (List (Int × Int)) :=
  if nthS (wrd r) 0 = w ∧ none ∉ (wrd r).tail.map frW then some ((wrd r).tail.filterMap frW) else none
def pqD (p : Int × Int) : D := .tup [.int p.1, .int p.2]
def fsD : Option (List (Int × Int)) → D
  | some ps => .tup (ps.map pqD)
  | none => .non
theorem fo_pq {ws : List Str} (h : none ∉ ws.map frW) : (ws.map fun w => foD (frW w)) = (ws.filterMap frW).map pqD := by
  induction ws with
  | nil => rfl
  | cons w r ih =>
    have h1 : frW w ≠ none := fun e => h (by simp [e])
    have h2 : none ∉ r.map frW := fun z => h (by rw [List.map_cons]; exact List.mem_cons_of_mem _ z)
    cases hw : frW w with
    | none => exact absurd hw h1
    | some p =>
      rw [List.map_cons, List.filterMap_cons, hw, ih h2]
      rfl
theorem wsd_parts {w : Str} {ws : List Str} (m : Mem) : gIx (wsD (w :: ws)) (.int 0) m = .ok (.str w) m ∧ gSl false (wsD (w :: ws)) (some 1) none m = .ok (.lst (ws.map .str)) m := by
  refine ⟨gIx_lst (Y.atI_nat (k := 0) rfl), ?_⟩
  show gSl false (.lst ((w :: ws).map .str)) (some 1) none m = _
  rw [gSl_lst, List.map_cons, Mir.N.d1]
theorem fractions_in_eq {m : Mem} {r x : Str} (h : r.length ≤ 20000) : Mir.N.m_fractions_in [.str r, .str x] m = .ok (fsD (frsW r x)) m := by
  have key : Tri (Mir.N.m_fractions_in [.str r, .str x] m) (fun d m' => d = fsD (frsW r x) ∧ m' = m) := by
    refine tri_fn rfl ?_
    obtain ⟨h1, h2, h3⟩ := sep_sp.len r
    have hne : wrd r ≠ [] := h1
    have h2' : (wrd r).length ≤ r.length + 1 := h2
    have h3' : ∀ w ∈ wrd r, w.length ≤ r.length := h3
    simp [Mir.N.b_fractions_in, Mir.N.split_sp h]
    unfold frsW
    revert hne h2' h3'
    generalize wrd r = ws
    intro hne h2' h3'
    cases ws with
    | nil => exact absurd rfl hne
    | cons w ws =>
      have gp := fun m => @wsd_parts w ws m
      have g0 := fun m => (gp m).1
      have s1 := fun m => (gp m).2
      have e0 : nthS (w :: ws) 0 = w := rfl
      have et : (w :: ws).tail = ws := rfl
      rw [e0, et]
      generalize hR : fsD (if w = x ∧ none ∉ ws.map frW then some (ws.filterMap frW) else none) = R
      simp [Mir.N.b_fractions_in_s1, s1]
      refine tri_map D.str (fun z => foD (frW z)) ws (fun z hz => ⟨_, rfl, rfl, by
        have := h3' z (List.mem_cons_of_mem _ hz)
        simp [wipeE, frac_w (show z.length ≤ 20000 by omega)]⟩) (by simp at h2'; omega) ?_
      have nn := none_in m (ws.map frW)
      rw [List.map_map] at nn
      have nn' : gIn false .non (.lst (ws.map fun z => foD (frW z))) m = .ok (.bl (decide (none ∈ ws.map frW))) m := nn
      simp only [Mir.N.b_fractions_in_s2]
      simp [g0]
      by_cases hw : w = x
      · rw [if_pos hw, nn']
        by_cases hn : none ∈ ws.map frW
        · rw [if_neg (fun z => z.2 hn)] at hR
          simp only [tri_ok, decide_eq_true hn]
          simp
          exact hR
        · rw [if_pos ⟨hw, hn⟩] at hR
          simp only [tri_ok, decide_eq_false hn]
          simp [Mir.N.b_fractions_in_s3]
          rw [← hR, fo_pq hn]
          rfl
      · rw [if_neg (fun z => hw z.1)] at hR
        rw [if_neg hw]
        exact hR
  obtain ⟨d, m', e, rfl, rfl⟩ := key.ex
  exact e
theorem room_in_eq {m : Mem} {w : Str} (h : w.length ≤ 20000) : Mir.N.m_room_in [.str w] m = .ok (oD (Mir.N.cntW w)) m := by
  have e : Mir.N.m_room_in = Mir.N.m_count_of := rfl
  rw [e]
  exact Mir.N.count_of_eq h
def alikeS : Str := Str.ofString "alike"
def openS : Str := Str.ofString "open"
/-- what a row of words tells as a head: its kind, the room, the other room or the deed -/
inductive Head
  | alike (a b : Nat)
  | open' (a : Nat) (x : Str)
def headW (ws : List Str) : Option Head :=
  if ws.length = 3 then
    (if nthS ws 0 = alikeS then (match Mir.N.cntW (nthS ws 1), Mir.N.cntW (nthS ws 2) with
      | some a, some b => some (.alike a b)
      | _, _ => none)
    else if nthS ws 0 = openS then (match Mir.N.cntW (nthS ws 1) with
      | some a => if nmB (nthS ws 2) = true then some (.open' a (nthS ws 2)) else none
      | none => none)
    else none) else none
def hedD : Option Head → D
  | some (.alike a b) => .tup [.str alikeS, .int (a : Nat), .int (b : Nat)]
  | some (.open' a x) => .tup [.str openS, .int (a : Nat), .str x]
  | none => .non
theorem head_in_eq {m : Mem} {r : Str} (h : r.length ≤ 20000) : Mir.N.m_head_in [.str r] m = .ok (hedD (headW (wrd r))) m := by
  have key : Tri (Mir.N.m_head_in [.str r] m) (fun d m' => d = hedD (headW (wrd r)) ∧ m' = m) := by
    refine tri_fn rfl ?_
    obtain ⟨h1, h2, h3⟩ := sep_sp.len r
    have h3' : ∀ w ∈ wrd r, w.length ≤ r.length := h3
    simp [Mir.N.b_head_in, Mir.N.split_sp h]
    unfold headW
    revert h3'
    generalize wrd r = ws
    intro h3'
    have gl : ∀ m, bLen [wsD ws] m = .ok (.int (ws.length : Nat)) m := fun m => by unfold wsD; simp
    by_cases hl : ws.length = 3
    · obtain ⟨x, y, z, rfl⟩ : ∃ x y z, ws = [x, y, z] := by
        match ws, hl with
        | [x, y, z], _ => exact ⟨x, y, z, rfl⟩
      have g0 : ∀ m, gIx (wsD [x, y, z]) (.int 0) m = .ok (.str x) m := fun m => gIx_lst (Y.atI_nat (k := 0) rfl)
      have g1 : ∀ m, gIx (wsD [x, y, z]) (.int 1) m = .ok (.str y) m := fun m => gIx_lst (Y.atI_nat (k := 1) rfl)
      have g2 : ∀ m, gIx (wsD [x, y, z]) (.int 2) m = .ok (.str z) m := fun m => gIx_lst (Y.atI_nat (k := 2) rfl)
      have n0 : nthS [x, y, z] 0 = x := rfl
      have n1 : nthS [x, y, z] 1 = y := rfl
      have n2 : nthS [x, y, z] 2 = z := rfl
      rw [n0, n1, n2]
      have ly := h3' y (by simp)
      have lz := h3' z (by simp)
      have ei : ∀ m, gIn true (.str x) (.tup [.str (Str.ofString "alike"), .str (Str.ofString "open")]) m = .ok (.bl (!decide (x ∈ [alikeS, openS]))) m := fun m => by
        have := @gIn_tstrs x [alikeS, openS] true m
        have e : D.tup [.str (Str.ofString "alike"), .str (Str.ofString "open")] = .tup ([alikeS, openS].map .str) := rfl
        rw [e, this]
        simp
      generalize wsD [x, y, z] = W at *
      generalize hR : hedD _ = R
      simp only [Mir.N.b_head_in_s1]
      simp [gl, g0, ei]
      have sz : 3 ≤ sizeLine := size_le (by decide)
      by_cases ha : x = alikeS
      · rw [if_pos hl, if_pos ha] at hR
        rw [if_neg (fun q => q.1 ha)]
        have ha' : x = Str.ofString "alike" := ha
        simp [Mir.N.b_head_in_s2, g1, room_in_eq (show y.length ≤ 20000 by omega), Mir.N.b_head_in_s3, g2, Mir.N.b_head_in_s4, g0, ha', room_in_eq (show z.length ≤ 20000 by omega), Mir.N.b_head_in_s5]
        cases h1 : Mir.N.cntW y with
        | none => rw [h1] at hR; simp [oD, Mir.isNon]; exact hR
        | some a =>
          cases h2 : Mir.N.cntW z with
          | none => rw [h1, h2] at hR; simp [oD, Mir.isNon]; exact hR
          | some b =>
            rw [h1, h2] at hR
            simp [oD, Mir.isNon, Mir.N.b_head_in_s6, g0]
            rw [← hR, ha]
            rfl
      · rw [if_pos hl, if_neg ha] at hR
        have ha' : ¬ x = Str.ofString "alike" := ha
        by_cases ho : x = openS
        · rw [if_pos ho] at hR
          rw [if_neg (fun q => q.2 ho)]
          simp [Mir.N.b_head_in_s2, g1, room_in_eq (show y.length ≤ 20000 by omega), Mir.N.b_head_in_s3, g2, Mir.N.b_head_in_s4, g0, ha', Mir.N.is_name_any (show z.length ≤ 100000 by omega)]
          by_cases hz : nmB z = true
          · simp [hz, Mir.N.b_head_in_s5]
            cases h1 : Mir.N.cntW y with
            | none => rw [h1] at hR; simp [oD, Mir.isNon]; exact hR
            | some a =>
              rw [h1] at hR
              simp only [hz, if_true] at hR
              simp [oD, Mir.isNon, Mir.N.b_head_in_s6, g0]
              rw [← hR, ho]
              rfl
          · have hz' : nmB z = false := by simpa using hz
            simp [hz', Mir.N.b_head_in_s5, Mir.isNon]
            cases h1 : Mir.N.cntW y with
            | none => rw [h1] at hR; exact hR
            | some a =>
              rw [h1] at hR
              simp [hz'] at hR
              exact hR
        · rw [if_neg ho] at hR
          rw [if_pos ⟨ha, ho⟩]
          exact hR
    · rw [if_neg hl]
      have : ¬ (ws.length : Int) = 3 := by omega
      simp [Mir.N.b_head_in_s1, gl, this, hedD]
  obtain ⟨d, m', e, rfl, rfl⟩ := key.ex
  exact e
inductive Out
  | bad (i : Nat)
  | good (p : D)
def goesS : Str := Str.ofString "goes"
def weightsS : Str := Str.ofString "weights"
def goF (rows : List Str) : List Str → Nat → List D → Out
  | [], at', acc => if rows.length > at' then .bad at' else .good (.tup acc)
  | w :: ws, at', acc => if rows.length ≤ at' then .bad at' else match frsW (nthS rows at') w with
    | none => .bad at'
    | some f => goF rows ws (at' + 1) (acc ++ [.tup (f.map pqD)])
theorem goF_cons (rows : List Str) (w : Str) (ws : List Str) (a : Nat) (acc : List D) : goF rows (w :: ws) a acc = if rows.length ≤ a then .bad a else match frsW (nthS rows a) w with
    | none => .bad a
    | some f => goF rows ws (a + 1) (acc ++ [.tup (f.map pqD)]) := rfl
theorem goF_nil (rows : List Str) (a : Nat) (acc : List D) : goF rows [] a acc = if rows.length > a then .bad a else .good (.tup acc) := rfl
def hedL : Head → List D
  | .alike a b => [.str alikeS, .int (a : Nat), .int (b : Nat)]
  | .open' a x => [.str openS, .int (a : Nat), .str x]
def hedW : Head → List Str
  | .alike _ _ => [goesS]
  | .open' _ _ => [weightsS, goesS]
def outW (t : Str) : Out := match headW (wrd (nthS (Txt.split t nl) 0)) with
  | none => .bad 0
  | some hd => goF (Txt.split t nl) (hedW hd) 1 (hedL hd)
theorem loopE_lst {α : Type} (f : α → D) (c : Int) (xs : List α) (g : GM) (body : SM) (η : Env') (m : Mem) : mLoop (srcE c (rdS1 (.lst (xs.map f)))) g body xs.length 0 η m = forD g body (enumD c (xs.map f)) η m := by
  have e : rdS1 (.lst (xs.map f)) = rdS1 (.tup (xs.map f)) := funext fun _ => rfl
  rw [e]
  exact Mir.V.loopE_map f c xs g body η m
section
variable {m : Mem} {P : D → Mem → Prop} {Ex : Exn → Mem → Prop}
theorem read_paper_then {t : Str} (h : t.length ≤ 20000) (hb : ∀ i : Nat, outW t = .bad i → Ex (Mir.N.xText (i : Nat)) m) (hg : ∀ p, outW t = .good p → P p m) : TriX (Mir.N.m_read_paper [.str t] m) P Ex := by
  refine trix_fn rfl ?_
  obtain ⟨l1, l2, l3⟩ := sep_nl.len t
  simp [Mir.N.b_read_paper, Mir.N.split_nl h]
  unfold outW at hb hg
  revert hb hg l1 l2 l3
  generalize Txt.split t nl = rows
  intro hb hg l1 l2 l3
  have gi : ∀ i m, i < rows.length → gIx (wsD rows) (.int (i : Nat)) m = .ok (.str (nthS rows i)) m := fun i m hi => gIx_lst (Y.atI_nat (by rw [List.getElem?_map, Mir.N.nthS_get hi]; rfl))
  have hpos : 0 < rows.length := List.length_pos_iff.mpr l1
  have g0 : ∀ m, gIx (wsD rows) (.int 0) m = .ok (.str (nthS rows 0)) m := fun m => gi 0 m hpos
  have hln : ∀ i, i < rows.length → (nthS rows i).length ≤ 20000 := fun i hi => by have := l3 _ (List.mem_of_getElem? (Mir.N.nthS_get hi)); omega
  have gl : ∀ m, bLen [wsD rows] m = .ok (.int (rows.length : Nat)) m := fun m => by unfold wsD; simp
  simp [Mir.N.b_read_paper_s1, g0, head_in_eq (hln 0 hpos), Mir.N.b_read_paper_s2]
  cases hh : headW (wrd (nthS rows 0)) with
  | none =>
    rw [hh] at hb
    simp [hedD, Mir.isNon]
    exact hb 0 rfl
  | some hd =>
    rw [hh] at hb hg
    have eh : hedD (some hd) = .tup (hedL hd) := by cases hd <;> rfl
    have isn : Mir.isNon (.tup (hedL hd)) = false := rfl
    rw [eh]
    simp [isn]
    have loop : ∀ (N : Env' → Mem → Prop), TriSX (Mir.N.b_read_paper_s5 [some (.str t), some (wsD rows), some (.tup (hedL hd)), some (.lst ((hedW hd).map .str)), none, none, none] m) N P Ex := fun N => by
      simp [Mir.N.b_read_paper_s5]
      rw [loopE_lst, enumD_map]
      obtain ⟨Inv, hInv⟩ : ∃ I : Nat → Env' → Mem → Prop, ∀ k η m', I k η m' ↔ (m' = m ∧ ∃ (acc : List D) (e4 e5 e6 : Option D), goF rows (hedW hd) 1 (hedL hd) = goF rows ((hedW hd).drop k) (1 + k) acc ∧ acc.length ≤ 3 + k ∧ 1 + k ≤ rows.length ∧ η = [some (.str t), some (wsD rows), some (.tup acc), some (.lst ((hedW hd).map .str)), e4, e5, e6]) := ⟨_, fun _ _ _ => Iff.rfl⟩
      have hwl : (hedW hd).length ≤ 2 := by cases hd <;> simp [hedW]
      refine for_invX Inv _ ((hInv _ _ _).mpr ⟨rfl, hedL hd, _, _, _, rfl, by cases hd <;> simp [hedL], by omega, rfl⟩) (fun k d η m2 hkd hI => ?_) (fun η m2 hI => ?_)
      · obtain ⟨rfl, acc, e4, e5, e6, hgo, hal, hkr, rfl⟩ := (hInv _ _ _).mp hI
        rw [List.getElem?_map, List.getElem?_zipIdx] at hkd
        cases hx : (hedW hd)[k]? with
        | none => rw [hx] at hkd; cases hkd
        | some w =>
        rw [hx] at hkd
        cases hkd
        have hkl := (List.getElem?_eq_some_iff.mp hx).1
        have hdr : (hedW hd).drop k = w :: (hedW hd).drop (k + 1) := by
          rw [List.drop_eq_getElem_cons hkl]
          congr 1
          exact Option.some.inj ((List.getElem?_eq_getElem hkl).symm.trans hx)
        rw [hdr] at hgo
        rw [goF_cons] at hgo
        simp [Mir.N.b_read_paper_0, gl]
        by_cases hlt : rows.length ≤ 1 + k
        · rw [if_pos hlt] at hgo
          rw [if_pos (by omega)]
          have := hb _ hgo
          rw [show 1 + k = rows.length by omega] at this
          exact this
        · rw [if_neg hlt] at hgo
          rw [if_neg (by omega)]
          have gk := gi (1 + k) m2 (by omega)
          rw [show ((1 + k : Nat) : Int) = (k : Int) + 1 by omega] at gk
          simp [Mir.N.b_read_paper_0s1, gk, fractions_in_eq (hln (1 + k) (by omega))]
          cases hf : frsW (nthS rows (1 + k)) w with
          | none =>
            rw [hf] at hgo
            simp [fsD, Mir.N.b_read_paper_0s2, Mir.isNon]
            have := hb _ hgo
            rw [show ((1 + k : Nat) : Int) = (k : Int) + 1 by omega] at this
            exact this
          | some f =>
            rw [hf] at hgo
            have isn : Mir.isNon (.tup (f.map pqD)) = false := rfl
            simp [fsD, Mir.N.b_read_paper_0s2, isn, Mir.N.b_read_paper_0s3]
            rw [gAdd_tup (by simp; omega)]
            simp
            exact (hInv _ _ _).mpr ⟨rfl, _, _, _, _, by rw [hgo]; rfl, by simp; omega, by omega, rfl⟩
      · obtain ⟨rfl, acc, e4, e5, e6, hgo, hal, hkr, rfl⟩ := (hInv _ _ _).mp hI
        rw [List.length_map, List.length_zipIdx] at hgo hkr
        rw [List.drop_of_length_le (Nat.le_refl _)] at hgo
        rw [goF_nil] at hgo
        simp [Mir.N.b_read_paper_s6, gl]
        by_cases hgt : rows.length > 1 + (hedW hd).length
        · rw [if_pos hgt] at hgo
          rw [if_pos (by omega)]
          have := hb _ hgo
          rw [show ((1 + (hedW hd).length : Nat) : Int) = 1 + ((hedW hd).length : Int) by omega] at this
          exact this
        · rw [if_neg hgt] at hgo
          rw [if_neg (by omega)]
          simp [Mir.N.b_read_paper_s7]
          exact hg _ hgo
    cases hd with
    | alike a b =>
      have g : ∀ m, gIx (.tup (hedL (.alike a b))) (.int 0) m = .ok (.str (Str.ofString "alike")) m := fun m => rfl
      have ne : ¬ Str.ofString "alike" = Str.ofString "open" := by decide +kernel
      simp [Mir.N.b_read_paper_s3, Mir.N.b_read_paper_s4, g, ne]
      exact loop _
    | open' a x =>
      have g : ∀ m, gIx (.tup (hedL (.open' a x))) (.int 0) m = .ok (.str (Str.ofString "open")) m := fun m => rfl
      simp [Mir.N.b_read_paper_s3, Mir.N.b_read_paper_s4, g]
      exact loop _
end
end Pp
end Mir

/-! papers written: fractions of up to thirty figures, papers of up to some hundred of them; and read back -/
namespace Mir
namespace Pp
open PySem PySem.Spec PyProof.Rows L2 Mir Mir.Y PySem.NumText
open Mir.Fr (qD QB)
open Mir.V (figL figB numB fig_mem wsD sp nl lineS tl_sp tl_nl tl_line joinL_free joinL_len sum_len join_eq)
open Mir.N (nthS wrd Sep sep_sp sep_nl nmB Asc numS bStr_num comp_mapK add_lst)
def inL (i : Int) : List Nat := if i < 0 then 45 :: TL.numL i.natAbs else TL.numL i.natAbs
theorem str_S (i : Int) : Str.ofString (toString i) = SX.S (inL i) := by
  cases i with
  | ofNat n =>
    have e : inL (Int.ofNat n) = TL.numL n := by
      unfold inL
      rw [if_neg (by simp)]
      rfl
    rw [e]
    exact SX.num_S n
  | negSucc n =>
    have e : inL (Int.negSucc n) = 45 :: TL.numL (n + 1) := by
      unfold inL
      rw [if_pos (Int.negSucc_lt_zero n)]
      rfl
    rw [e]
    apply TL.ext_tl
    have h1 := TL.tl_num (n + 1)
    show (Str.ofString (toString (Int.negSucc n))).cps.toList = 45 :: TL.numL (n + 1)
    rw [← h1]
    show (Str.ofString ("-" ++ Nat.repr (n + 1))).cps.toList = 45 :: (Str.ofString (Nat.repr (n + 1))).cps.toList
    rw [signs_ofString, signs_ofString, String.toList_append, List.map_append]
    rfl
theorem num_head : ∀ n : Nat, 0 < n → (TL.numL n).head? ≠ some 48 := by
  intro n
  induction n using Nat.strongRecOn with
  | _ n ih =>
    intro h0
    by_cases h : n < 10
    · rw [TL.numL_lt h]
      simp
      omega
    · rw [TL.numL_step (by omega), List.head?_append]
      have := ih (n / 10) (by omega) (by omega)
      cases hx : (TL.numL (n / 10)).head? with
      | none => exact absurd (List.head?_eq_none_iff.mp hx) (TL.numL_ne _)
      | some c => rw [hx] at this; simpa using this
theorem fig_num {n k : Nat} (h : (TL.numL n).length ≤ k) : figB (TL.numL n) (k : Nat) = true := by
  unfold figB
  have h1 : 1 ≤ (TL.numL n).length := List.length_pos_iff.mpr (TL.numL_ne n)
  have h2 : (TL.numL n).all (fun c => decide (c ∈ figL)) = true := by
    rw [List.all_eq_true]
    intro c hc
    have := TL.numL_digits n c hc
    rw [decide_eq_true_eq, fig_mem]
    exact this
  rw [decide_eq_true (by omega), decide_eq_true (by omega), h2]
  by_cases hn : n = 0
  · subst hn
    rfl
  · have := num_head n (by omega)
    simp [this]
theorem inL_num {i : Int} (h : i.natAbs < 10 ^ 30) : numB (inL i) 30 = .int i := by
  have hl := TL.numL_len (n := i.natAbs) (k := 30) (by decide) h
  have hf := fig_num hl
  unfold numB inL
  by_cases hi : i < 0
  · simp only [if_pos hi]
    rw [if_pos (by simp)]
    have h48 : TL.numL i.natAbs ≠ [48] := fun e => num_head i.natAbs (by omega) (by rw [e]; rfl)
    rw [if_pos ⟨hf, h48⟩]
    show D.int (0 - (digitsVal (TL.numL i.natAbs) : Nat)) = _
    rw [TL.numL_val]
    congr 1
    omega
  · simp only [if_neg hi]
    have h45 : (TL.numL i.natAbs).take 1 ≠ [45] := fun e => by
      have : 45 ∈ TL.numL i.natAbs := List.mem_of_mem_take (i := 1) (by rw [e]; simp)
      exact TL.numL_free (by decide) this
    rw [if_neg h45]
    have hf' : figB (TL.numL i.natAbs) 30 = true := hf
    rw [if_pos hf', TL.numL_val]
    congr 1
    omega
theorem inL_free {i : Int} {c : Nat} (h : c ≠ 45) (h2 : c < 48 ∨ 57 < c) : c ∉ inL i := by
  unfold inL
  split
  · intro z
    rcases List.mem_cons.mp z with z | z
    · exact h z
    · exact TL.numL_free h2 z
  · exact TL.numL_free h2
theorem inL_len {i : Int} (h : i.natAbs < 10 ^ 30) : (inL i).length ≤ 31 := by
  have hl := TL.numL_len (n := i.natAbs) (k := 30) (by decide) h
  unfold inL
  split
  · simp; omega
  · omega
theorem inL_pos {i : Int} (h : 0 ≤ i) (h2 : i.natAbs < 10 ^ 30) : (inL i).length ≤ 30 := by
  have hl := TL.numL_len (n := i.natAbs) (k := 30) (by decide) h2
  unfold inL
  rw [if_neg (by omega)]
  exact hl
theorem log_30 {n : Nat} (h : n < 10 ^ 30) : n.log2 < 1920 := by
  have h1 : n < 2 ^ 100 := Nat.lt_trans h (by decide)
  exact Nat.lt_trans (Mir.Fr.log2_lt h1 (by decide)) (by decide)
theorem bStr_S {i : Int} {m : Mem} (h : i.natAbs < 10 ^ 30) : bStr [.int i] m = .ok (.str (SX.S (inL i))) m := by
  show (if i.natAbs.log2 < 1920 then R.ok (D.str (Str.ofString (toString i))) m else R.stk) = _
  rw [if_pos (log_30 h), str_S]
/-- a fraction of up to thirty figures above and below -/
structure F30 (q : Rat) : Prop where
  n : q.num.natAbs < 10 ^ 30
  d : q.den < 10 ^ 30
theorem F30.dn {q : Rat} (h : F30 q) : (q.den : Int).natAbs < 10 ^ 30 := by rw [Int.natAbs_natCast]; exact h.d
/-- its text -/
def tx (q : Rat) : List Nat := if q.den = 1 then inL q.num else inL q.num ++ 47 :: inL q.den
def txS (q : Rat) : Str := SX.S (tx q)
theorem tx_len {q : Rat} (h : F30 q) : (tx q).length ≤ 62 := by
  have h1 := inL_len h.n
  have h2 := inL_pos (i := (q.den : Int)) (by omega) h.dn
  unfold tx
  split
  · omega
  · simp; omega
theorem tx_free {q : Rat} {c : Nat} (h : c ≠ 45) (h2 : c < 47 ∨ 57 < c) : c ∉ tx q := by
  have h1 := @inL_free q.num c h (by omega)
  have h3 := @inL_free (q.den : Int) c h (by omega)
  unfold tx
  split
  · exact h1
  · intro z
    rcases List.mem_append.mp z with z | z
    · exact h1 z
    · rcases List.mem_cons.mp z with z | z
      · omega
      · exact h3 z
theorem txS_len {q : Rat} (h : F30 q) : (txS q).length ≤ 62 := by unfold txS; rw [SX.S_len]; exact tx_len h
theorem fraction_text_eq {q : Rat} {m : Mem} (h : F30 q) : Mir.N.m_fraction_text [qD q] m = .ok (.str (txS q)) m := by
  have key : Tri (Mir.N.m_fraction_text [qD q] m) (fun r m' => r = .str (txS q) ∧ m' = m) := by
    refine tri_fn rfl ?_
    have l1 := inL_len h.n
    have l2 := inL_len (i := (q.den : Int)) h.dn
    have u : ∀ (g : GsM) η m (q : Rat), gTp 2 g (qD q) η m = g [.int q.num, .int (q.den : Nat)] η m := fun _ _ _ _ => rfl
    simp [Mir.N.b_fraction_text, u, Mir.N.b_fraction_text_s1]
    unfold txS
    by_cases hd : q.den = 1
    · simp [hd, bStr_S h.n, tx]
    · have f1 : ∀ m, fmtD (.int q.num) m = .ok (.str (SX.S (inL q.num))) m := fun m => bStr_S h.n
      have f2 : ∀ m, fmtD (.int (q.den : Int)) m = .ok (.str (SX.S (inL q.den))) m := fun m => bStr_S (i := (q.den : Int)) h.dn
      have j : ∀ (a x : List Nat) (k : Str → Mem → R D) (m : Mem), a.length + x.length ≤ 1000000 → jsD (SX.S a) k (.str (SX.S x)) m = k (SX.S (a ++ x)) m := fun a x k m hl => by
        show (if (SX.S a ++ SX.S x).length ≤ sizeLine then k (SX.S a ++ SX.S x) m else .stk) = _
        rw [S_append, SX.S_len, if_pos (size_le (by rw [List.length_append]; exact hl))]
      have js : ∀ (c : EM) (cs : List EM) (a : Str) (η : Env') (m : Mem), mJs (c :: cs) a η m = (c η m).bind (jsD a fun acc m1 => mJs cs acc η m1) := fun _ _ _ _ _ => rfl
      have js0 : ∀ (a : Str) (η : Env') (m : Mem), mJs [] a η m = .ok (.str a) m := fun _ _ _ => rfl
      have e0 : Str.empty = SX.S [] := rfl
      rw [if_neg (show ¬ (q.den : Int) = 1 by omega)]
      simp only [Mir.N.b_fraction_text_s2, js, js0, mFmt, ap_mVar, List.getElem?_cons_succ, List.getElem?_cons_zero, varR_ok, bind_ok, f1, f2, ap_c, slash_S, e0, ap_ret]
      rw [j [] _ _ _ (by simp; omega), j _ _ _ _ (by simp; omega), j _ _ _ _ (by simp; omega)]
      simp [tx, hd]
  obtain ⟨r, m', e, rfl, rfl⟩ := key.ex
  exact e
/-- read back -/
theorem fr_tx {q : Rat} (h : F30 q) : frW (txS q) = some (q.num, (q.den : Int)) := by
  have h47 : 47 ∉ inL q.num := inL_free (by decide) (by decide)
  have h47' : 47 ∉ inL (q.den : Int) := inL_free (by decide) (by decide)
  show frO (tx q) = _
  unfold frO frD tx
  by_cases hd : q.den = 1
  · rw [if_pos hd, spl_none 47 _ [] h47]
    show (match oneD (numB ([] ++ inL q.num) 30) with
      | .tup [.int u, .int w] => some (u, w)
      | _ => none) = _
    rw [List.nil_append, inL_num h.n, hd]
    rfl
  · rw [if_neg hd, spl_some 47 _ _ [] h47, spl_none 47 _ [] h47']
    show (match pairD (numB ([] ++ inL q.num) 30) (numB ([] ++ inL (q.den : Int)) 30) with
      | .tup [.int u, .int w] => some (u, w)
      | _ => none) = _
    rw [List.nil_append, List.nil_append, inL_num h.n, inL_num (i := (q.den : Int)) h.dn]
    have hp := q.den_pos
    have hg : Int.gcd q.num q.den = 1 := q.reduced
    unfold pairD
    simp only
    rw [if_pos ⟨by omega, hg⟩]
/-- a word of a paper's text -/
structure Wf (x : Str) : Prop where
  len : x.length ≤ 70
  b : 32 ∉ TL.tl x
  n : 10 ∉ TL.tl x
theorem wf_tx {q : Rat} (h : F30 q) : Wf (txS q) := ⟨by have := txS_len h; omega, tx_free (by decide) (by decide), tx_free (by decide) (by decide)⟩
theorem wf_wr {x : Str} (h : Mir.N.Wr x) : Wf x := ⟨by have := h.len; omega, h.b, h.n⟩
theorem line_join {q : D} {m : Mem} {ws : List Str} (hq : seqOf m q = some (ws.map .str)) (hw : ∀ x ∈ ws, Wf x) (hl : ws.length ≤ 1000) : gJoin (.str (Str.ofString " ")) [q] m = .ok (.str (lineS ws)) m := by
  have hs := sum_len (xs := ws) (B := 70) fun x hx => (hw x hx).len
  exact join_eq (m := m) (a := sp) (xs := ws) hq (by
    have : sp.length = 1 := by decide +kernel
    rw [this]
    omega)
theorem line_leng {ws : List Str} (h : ∀ x ∈ ws, Wf x) : (lineS ws).length ≤ ws.length * 71 := by
  have h2 := joinL_len (S := [32]) (B := 70) (ps := ws.map TL.tl) fun p hp => by
    obtain ⟨x, hx, rfl⟩ := List.mem_map.mp hp
    exact (h x hx).len
  rw [List.length_map] at h2
  show (TL.tl (lineS ws)).length ≤ _
  rw [tl_line]
  exact h2
theorem line_nl {ws : List Str} (h : ∀ x ∈ ws, Wf x) : 10 ∉ TL.tl (lineS ws) := by
  rw [tl_line]
  refine joinL_free (by decide) fun p hp => ?_
  obtain ⟨x, hx, rfl⟩ := List.mem_map.mp hp
  exact (h x hx).n
theorem line_back {ws : List Str} (hne : ws ≠ []) (h : ∀ x ∈ ws, Wf x) : wrd (lineS ws) = ws := TL.split_join tl_sp (by decide +kernel) hne fun p hp => (h p hp).b
/-- a paper's rows -/
def rowW (w : Str) (qs : List Rat) : List Str := w :: qs.map txS
inductive Ppr
  | alike (a b : Int) (gs : List Rat)
  | open' (a : Int) (x : Str) (us gs : List Rat)
def pprD : Ppr → D
  | .alike a b gs => .tup [.str alikeS, .int a, .int b, .tup (gs.map qD)]
  | .open' a x us gs => .tup [.str openS, .int a, .str x, .tup (us.map qD), .tup (gs.map qD)]
def OkP (B : Int) : Ppr → Prop
  | .alike a b gs => (0 ≤ a ∧ a < B) ∧ (0 ≤ b ∧ b < B) ∧ gs.length ≤ 900 ∧ ∀ q ∈ gs, F30 q
  | .open' a x us gs => (0 ≤ a ∧ a < B) ∧ Nm x ∧ (us.length ≤ 900 ∧ ∀ q ∈ us, F30 q) ∧ gs.length ≤ 900 ∧ ∀ q ∈ gs, F30 q
theorem OkP.mono {B C : Int} {p : Ppr} (h : OkP B p) (hb : B ≤ C) : OkP C p := by
  cases p with
  | alike a b gs => exact ⟨⟨h.1.1, by have := h.1.2; omega⟩, ⟨h.2.1.1, by have := h.2.1.2; omega⟩, h.2.2⟩
  | open' a x us gs => exact ⟨⟨h.1.1, by have := h.1.2; omega⟩, h.2⟩
def wordsP : Ppr → List (List Str)
  | .alike a b gs => [[alikeS, numS a, numS b], rowW goesS gs]
  | .open' a x us gs => [[openS, numS a, x], rowW weightsS us, rowW goesS gs]
@[irreducible] def pT (p : Ppr) : Str := Txt.join nl ((wordsP p).map lineS)
theorem w_consts : [alikeS, openS, goesS, weightsS].all (fun x => decide (x.length ≤ 25) && decide (32 ∉ TL.tl x) && decide (10 ∉ TL.tl x)) = true := by decide +kernel
theorem w_const {x : Str} (h : x ∈ [alikeS, openS, goesS, weightsS]) : Wf x := by
  have := List.all_eq_true.mp w_consts x h
  simp only [Bool.and_eq_true, decide_eq_true_eq] at this
  exact ⟨by have := this.1.1; omega, this.1.2, this.2⟩
theorem row_w {w : Str} {qs : List Rat} (hw : w ∈ [alikeS, openS, goesS, weightsS]) (hl : qs.length ≤ 900) (hg : ∀ q ∈ qs, F30 q) : (∀ x ∈ rowW w qs, Wf x) ∧ (rowW w qs).length ≤ 901 ∧ rowW w qs ≠ [] := by
  refine ⟨fun x hx => ?_, by simp [rowW]; omega, by simp [rowW]⟩
  rcases List.mem_cons.mp hx with rfl | hx
  · exact w_const hw
  · obtain ⟨p, hp, rfl⟩ := List.mem_map.mp hx
    exact wf_tx (hg p hp)
theorem p_words {B : Int} {p : Ppr} (hB : B ≤ 10 ^ 10) (o : OkP B p) : ∀ l ∈ wordsP p, (∀ x ∈ l, Wf x) ∧ l.length ≤ 901 ∧ l ≠ [] := by
  intro l hl
  have num : ∀ {a : Int}, 0 ≤ a ∧ a < B → Wf (numS a) := fun h => wf_wr (Mir.N.wr_num h.1 (by omega))
  cases p with
  | alike a b gs =>
    obtain ⟨ha, hb, h5, hgs⟩ := o
    have : l = [alikeS, numS a, numS b] ∨ l = rowW goesS gs := by simpa [wordsP] using hl
    rcases this with rfl | rfl
    · refine ⟨fun x hx => ?_, by simp, by simp⟩
      have : x = alikeS ∨ x = numS a ∨ x = numS b := by simpa using hx
      rcases this with rfl | rfl | rfl
      · exact w_const (by simp)
      · exact num ha
      · exact num hb
    · exact row_w (by simp) h5 hgs
  | open' a x us gs =>
    obtain ⟨ha, hx, ⟨h5, hus⟩, h6, hgs⟩ := o
    have : l = [openS, numS a, x] ∨ l = rowW weightsS us ∨ l = rowW goesS gs := by simpa [wordsP] using hl
    rcases this with rfl | rfl | rfl
    · refine ⟨fun y hy => ?_, by simp, by simp⟩
      have : y = openS ∨ y = numS a ∨ y = x := by simpa using hy
      rcases this with rfl | rfl | rfl
      · exact w_const (by simp)
      · exact num ha
      · exact wf_wr (Mir.N.wr_nm hx)
    · exact row_w (by simp) h5 hus
    · exact row_w (by simp) h6 hgs
theorem p_join {B : Int} {p : Ppr} (hB : B ≤ 10 ^ 10) (o : OkP B p) {m : Mem} {q : D} (hq : seqOf m q = some (((wordsP p).map lineS).map .str)) : gJoin (.str (Str.ofString "\n")) [q] m = .ok (.str (pT p)) m := by
  have hw := p_words hB o
  have hs := sum_len (xs := (wordsP p).map lineS) (B := 901 * 71) fun z hz => by
    obtain ⟨l, hl, rfl⟩ := List.mem_map.mp hz
    have h1 := line_leng (hw l hl).1
    have h2 := Nat.mul_le_mul_right 71 (hw l hl).2.1
    omega
  have hpl : (wordsP p).length ≤ 3 := by cases p <;> simp [wordsP]
  unfold pT
  exact join_eq (a := nl) (xs := (wordsP p).map lineS) hq (by
    have : nl.length = 1 := by decide +kernel
    rw [List.length_map] at hs ⊢
    rw [this]
    omega)
theorem fractions_row_eq {w : Str} {qs : List Rat} {m : Mem} (hw : w ∈ [alikeS, openS, goesS, weightsS]) (hl : qs.length ≤ 900) (hg : ∀ q ∈ qs, F30 q) : Mir.N.m_fractions_row [.str w, .tup (qs.map qD)] m = .ok (.str (lineS (rowW w qs))) m := by
  have key : Tri (Mir.N.m_fractions_row [.str w, .tup (qs.map qD)] m) (fun r m' => r = .str (lineS (rowW w qs)) ∧ m' = m) := by
    refine tri_fn rfl ?_
    simp [Mir.N.b_fractions_row]
    refine tri_map qD (fun q => D.str (txS q)) qs (fun q hq => ⟨_, rfl, rfl, by simp [wipeE, fraction_text_eq (hg q hq)]⟩) (by omega) ?_
    have ad1 : gAdd false (.lst [.str w]) (.lst (qs.map fun q => D.str (txS q))) m = .ok (.lst ((rowW w qs).map .str)) m := by
      rw [add_lst (by simp; omega)]
      simp [rowW, List.map_map, Function.comp_def]
    obtain ⟨h1, h2, _⟩ := row_w hw hl hg
    simp only [mkL_f, tri_ok, ad1]
    rw [line_join rfl h1 (by omega)]
    exact ⟨rfl, rfl⟩
  obtain ⟨r, m', e, rfl, rfl⟩ := key.ex
  exact e
section
variable {m : Mem} {P : D → Mem → Prop} {Ex : Exn → Mem → Prop}
theorem paper_text_then {B : Int} {p : Ppr} (hB : B ≤ 10 ^ 10) (o : OkP B p) (h : ∀ m', Kp m m' → P (.str (pT p)) m') : Tri (Mir.N.m_paper_text [pprD p] m) P := by
  have hw := p_words hB o
  have jl : ∀ l : List Str, l ∈ wordsP p → ∀ m, gJoin (.str (Str.ofString " ")) [.lst (l.map .str)] m = .ok (.str (lineS l)) m := fun l hl m => line_join rfl (hw l hl).1 (by have := (hw l hl).2.1; omega)
  refine tri_fn rfl ?_
  cases p with
  | alike a b gs =>
    obtain ⟨ha, hb, hl, hgs⟩ := id o
    have g0 : ∀ m, gIx (.tup [.str alikeS, .int a, .int b, .tup (gs.map qD)]) (.int 0) m = .ok (.str alikeS) m := fun m => rfl
    have g1 : ∀ m, gIx (.tup [.str alikeS, .int a, .int b, .tup (gs.map qD)]) (.int 1) m = .ok (.int a) m := fun m => rfl
    have g2 : ∀ m, gIx (.tup [.str alikeS, .int a, .int b, .tup (gs.map qD)]) (.int 2) m = .ok (.int b) m := fun m => rfl
    have gm : ∀ m, gIx (.tup [.str alikeS, .int a, .int b, .tup (gs.map qD)]) (.int (-1)) m = .ok (.tup (gs.map qD)) m := fun m => rfl
    have bA : ∀ m, bStrA [.int b] m = .ok (.str (numS b)) m := fun m => bStr_num hb.1 (by omega) m
    have ne : ¬ alikeS = Str.ofString "open" := by decide +kernel
    simp [Mir.N.b_paper_text, pprD, g0, g1, g2, bStr_num ha.1 (show a < 10 ^ 10 by omega), bA]
    have e1 : D.lst [.str alikeS, .str (numS a), .str (numS b)] = .lst ([alikeS, numS a, numS b].map .str) := rfl
    rw [e1, jl _ (by simp [wordsP])]
    simp only [tri_ok]
    have hc1 : (m ++ [Cell.lst [.str (lineS [alikeS, numS a, numS b])]])[m.length]? = some (.lst [.str (lineS [alikeS, numS a, numS b])]) := by simp
    have hk1 : Kp m (m ++ [Cell.lst [.str (lineS [alikeS, numS a, numS b])]]) := (Kp.refl m).push _
    generalize m ++ [Cell.lst [.str (lineS [alikeS, numS a, numS b])]] = m1 at hc1 hk1
    simp [Mir.N.b_paper_text_s1, g0, ne, Mir.N.b_paper_text_s2, gm]
    rw [show Str.ofString "goes" = goesS from rfl, fractions_row_eq (by simp) hl hgs]
    simp only [tri_ok]
    rw [cat_own (xs := [.str (lineS [alikeS, numS a, numS b])]) (ys := [.str (lineS (rowW goesS gs))]) (own_ref hc1) (own_lst _ _) (by simp)]
    simp only [tri_ok]
    have e2 : D.lst ([.str (lineS [alikeS, numS a, numS b])] ++ [.str (lineS (rowW goesS gs))]) = .lst (((wordsP (.alike a b gs)).map lineS).map .str) := rfl
    rw [e2, p_join hB o rfl]
    exact h m1 hk1
  | open' a x us gs =>
    obtain ⟨ha, hx, ⟨hul, hus⟩, hl, hgs⟩ := id o
    have g0 : ∀ m, gIx (.tup [.str openS, .int a, .str x, .tup (us.map qD), .tup (gs.map qD)]) (.int 0) m = .ok (.str openS) m := fun m => rfl
    have g1 : ∀ m, gIx (.tup [.str openS, .int a, .str x, .tup (us.map qD), .tup (gs.map qD)]) (.int 1) m = .ok (.int a) m := fun m => rfl
    have g2 : ∀ m, gIx (.tup [.str openS, .int a, .str x, .tup (us.map qD), .tup (gs.map qD)]) (.int 2) m = .ok (.str x) m := fun m => rfl
    have g3 : ∀ m, gIx (.tup [.str openS, .int a, .str x, .tup (us.map qD), .tup (gs.map qD)]) (.int 3) m = .ok (.tup (us.map qD)) m := fun m => rfl
    have gm : ∀ m, gIx (.tup [.str openS, .int a, .str x, .tup (us.map qD), .tup (gs.map qD)]) (.int (-1)) m = .ok (.tup (gs.map qD)) m := fun m => rfl
    have bA : ∀ m, bStrA [.str x] m = .ok (.str x) m := fun m => rfl
    have eo : openS = Str.ofString "open" := rfl
    simp [Mir.N.b_paper_text, pprD, g0, g1, g2, bStr_num ha.1 (show a < 10 ^ 10 by omega), bA]
    have e1 : D.lst [.str openS, .str (numS a), .str x] = .lst ([openS, numS a, x].map .str) := rfl
    rw [e1, jl _ (by simp [wordsP])]
    simp only [tri_ok]
    have hc1 : (m ++ [Cell.lst [.str (lineS [openS, numS a, x])]])[m.length]? = some (.lst [.str (lineS [openS, numS a, x])]) := by simp
    have hk1 : Kp m (m ++ [Cell.lst [.str (lineS [openS, numS a, x])]]) := (Kp.refl m).push _
    generalize m ++ [Cell.lst [.str (lineS [openS, numS a, x])]] = m1 at hc1 hk1
    simp [Mir.N.b_paper_text_s1, g0, ← eo, isTy_ref hc1, g3]
    rw [show Str.ofString "weights" = weightsS from rfl, fractions_row_eq (by simp) hul hus]
    simp only [tri_ok]
    rw [append_ref hc1 (by simp)]
    simp only [tri_ok]
    have hc2 : (m1.set m.length (.lst ([.str (lineS [openS, numS a, x])] ++ [.str (lineS (rowW weightsS us))])))[m.length]? = some (.lst [.str (lineS [openS, numS a, x]), .str (lineS (rowW weightsS us))]) := by
      rw [List.getElem?_set_self (List.getElem?_eq_some_iff.mp hc1).1]; rfl
    have hk2 : Kp m (m1.set m.length (.lst ([.str (lineS [openS, numS a, x])] ++ [.str (lineS (rowW weightsS us))]))) := hk1.put (Nat.le_refl _) _
    generalize m1.set m.length (.lst ([.str (lineS [openS, numS a, x])] ++ [.str (lineS (rowW weightsS us))])) = m2 at hc2 hk2
    simp [Mir.N.b_paper_text_s2, gm]
    rw [show Str.ofString "goes" = goesS from rfl, fractions_row_eq (by simp) hl hgs]
    simp only [tri_ok]
    rw [cat_own (xs := [.str (lineS [openS, numS a, x]), .str (lineS (rowW weightsS us))]) (ys := [.str (lineS (rowW goesS gs))]) (own_ref hc2) (own_lst _ _) (by simp)]
    simp only [tri_ok]
    have e2 : D.lst ([.str (lineS [openS, numS a, x]), .str (lineS (rowW weightsS us))] ++ [.str (lineS (rowW goesS gs))]) = .lst (((wordsP (.open' a x us gs)).map lineS).map .str) := rfl
    rw [e2, p_join hB o rfl]
    exact h m2 hk2
end
theorem frs_row {w : Str} {qs : List Rat} (hw : w ∈ [alikeS, openS, goesS, weightsS]) (hl : qs.length ≤ 900) (hg : ∀ q ∈ qs, F30 q) : frsW (lineS (rowW w qs)) w = some (qs.map fun q => (q.num, (q.den : Int))) := by
  obtain ⟨r1, _, r3⟩ := row_w hw hl hg
  unfold frsW
  rw [line_back r3 r1]
  have e0 : nthS (rowW w qs) 0 = w := rfl
  have et : (rowW w qs).tail = qs.map txS := rfl
  rw [e0, et]
  have em : (qs.map txS).map frW = (qs.map fun q => (q.num, (q.den : Int))).map some := by
    rw [List.map_map, List.map_map]
    exact List.map_congr_left fun p hp => fr_tx (hg p hp)
  have ef : ∀ qs : List Rat, (∀ q ∈ qs, F30 q) → (qs.map txS).filterMap frW = qs.map fun q => (q.num, (q.den : Int)) := fun qs => by
    induction qs with
    | nil => intro _; rfl
    | cons q r ih =>
      intro h
      rw [List.map_cons, List.filterMap_cons, fr_tx (h q (by simp)), ih fun p hp => h p (List.mem_cons_of_mem _ hp)]
      rfl
  rw [em, ef qs hg, if_pos ⟨rfl, by simp⟩]
theorem p_split {B : Int} {p : Ppr} (hB : B ≤ 10 ^ 10) (o : OkP B p) : Txt.split (pT p) nl = (wordsP p).map lineS := by
  have hw := p_words hB o
  unfold pT
  exact TL.split_join tl_nl (by decide +kernel) (by cases p <;> simp [wordsP]) fun q hq => by
    obtain ⟨l, hl, rfl⟩ := List.mem_map.mp hq
    exact line_nl (hw l hl).1
theorem cnt_num {a : Int} (h : 0 ≤ a) (h2 : a < 10 ^ 9) : Mir.N.cntW (numS a) = some a.toNat := Mir.N.fig_numS h h2
/-- a paper's text is read as the paper -/
theorem p_back {p : Ppr} (o : OkP (10 ^ 9) p) : outW (pT p) = .good (pprD p) := by
  have hw := p_words (by decide) o
  have q2 : ∀ qs : List Rat, (qs.map fun q => (q.num, (q.den : Int))).map pqD = qs.map qD := fun qs => by rw [List.map_map]; rfl
  unfold outW
  rw [p_split (by decide) o]
  cases p with
  | alike a b gs =>
    obtain ⟨ha, hb, h5, hgs⟩ := o
    have e0 : nthS ((wordsP (.alike a b gs)).map lineS) 0 = lineS [alikeS, numS a, numS b] := rfl
    have e1 : nthS ((wordsP (.alike a b gs)).map lineS) 1 = lineS (rowW goesS gs) := rfl
    have hh : headW [alikeS, numS a, numS b] = some (.alike a.toNat b.toNat) := by
      have h3 : headW [alikeS, numS a, numS b] = (if alikeS = alikeS then (match Mir.N.cntW (numS a), Mir.N.cntW (numS b) with
        | some a, some b => some (Head.alike a b)
        | _, _ => none) else if alikeS = openS then (match Mir.N.cntW (numS a) with
        | some a' => if nmB (numS b) = true then some (Head.open' a' (numS b)) else none
        | none => none) else none) := rfl
      rw [h3, if_pos rfl, cnt_num ha.1 ha.2, cnt_num hb.1 hb.2]
    rw [e0, line_back (by simp) (hw _ (by simp [wordsP])).1, hh]
    show goF _ [goesS] 1 _ = _
    rw [goF_cons, if_neg (by simp [wordsP]), e1, frs_row (by simp) h5 hgs]
    simp only []
    rw [goF_nil, if_neg (by simp [wordsP]), q2]
    have ea : ((a.toNat : Nat) : Int) = a := by omega
    have eb : ((b.toNat : Nat) : Int) = b := by omega
    simp only [hedL, ea, eb]
    rfl
  | open' a x us gs =>
    obtain ⟨ha, hx, ⟨h5, hus⟩, h6, hgs⟩ := o
    have e0 : nthS ((wordsP (.open' a x us gs)).map lineS) 0 = lineS [openS, numS a, x] := rfl
    have e1 : nthS ((wordsP (.open' a x us gs)).map lineS) 1 = lineS (rowW weightsS us) := rfl
    have e2 : nthS ((wordsP (.open' a x us gs)).map lineS) 2 = lineS (rowW goesS gs) := rfl
    have ne : ¬ openS = alikeS := by decide +kernel
    have hh : headW [openS, numS a, x] = some (.open' a.toNat x) := by
      have h3 : headW [openS, numS a, x] = (if openS = alikeS then (match Mir.N.cntW (numS a), Mir.N.cntW x with
        | some a, some b => some (Head.alike a b)
        | _, _ => none) else if openS = openS then (match Mir.N.cntW (numS a) with
        | some a' => if nmB x = true then some (Head.open' a' x) else none
        | none => none) else none) := rfl
      rw [h3, if_neg ne, if_pos rfl, cnt_num ha.1 ha.2]
      simp only []
      rw [if_pos (Mir.N.nmB_iff.mpr hx)]
    rw [e0, line_back (by simp) (hw _ (by simp [wordsP])).1, hh]
    show goF _ [weightsS, goesS] 1 _ = _
    rw [goF_cons, if_neg (by simp [wordsP]), e1, frs_row (by simp) h5 hus]
    simp only []
    rw [goF_cons, if_neg (by simp [wordsP]), e2, frs_row (by simp) h6 hgs]
    simp only []
    rw [goF_nil, if_neg (by simp [wordsP]), q2, q2]
    have ea : ((a.toNat : Nat) : Int) = a := by omega
    simp only [hedL, ea]
    rfl
theorem cnt_big {a : Int} (h : 10 ^ 9 ≤ a) (h2 : a < 10 ^ 10) : Mir.N.cntW (numS a) = none := by
  have e9 : (10 : Int) ^ 9 = 1000000000 := by decide
  unfold Mir.N.cntW
  rw [Mir.N.numS_tl (by omega)]
  have hf : figB (TL.numL a.toNat) 9 = false := by
    have hl : ¬ (TL.numL a.toNat).length ≤ 9 := fun hl => by
      have h3 := val_lt (TL.numL a.toNat) 0 (TL.numL_digits _)
      have h4 : digitsVal (TL.numL a.toNat) < (0 + 1) * 10 ^ (TL.numL a.toNat).length := h3
      rw [TL.numL_val] at h4
      have h5 : 10 ^ (TL.numL a.toNat).length ≤ 10 ^ 9 := Nat.pow_le_pow_right (by decide) hl
      have h6 : (10 : Nat) ^ 9 = 1000000000 := by decide
      omega
    unfold figB
    rw [decide_eq_false (show ¬ ((TL.numL a.toNat).length : Int) ≤ 9 by omega)]
    simp
  rw [hf]
  rfl
/-- where the room has ten figures it is not read -/
theorem p_far {p : Ppr} (o : OkP (10 ^ 10) p) (h : match p with
    | .alike a _ _ => 10 ^ 9 ≤ a
    | .open' a _ _ _ => 10 ^ 9 ≤ a) : outW (pT p) = .bad 0 := by
  have hw := p_words (by decide) o
  unfold outW
  rw [p_split (by decide) o]
  cases p with
  | alike a b gs =>
    have e0 : nthS ((wordsP (.alike a b gs)).map lineS) 0 = lineS [alikeS, numS a, numS b] := rfl
    have hh : headW [alikeS, numS a, numS b] = none := by
      have h3 : headW [alikeS, numS a, numS b] = (if alikeS = alikeS then (match Mir.N.cntW (numS a), Mir.N.cntW (numS b) with
        | some a, some b => some (Head.alike a b)
        | _, _ => none) else if alikeS = openS then (match Mir.N.cntW (numS a) with
        | some a' => if nmB (numS b) = true then some (Head.open' a' (numS b)) else none
        | none => none) else none) := rfl
      rw [h3, if_pos rfl, cnt_big h o.1.2]
    rw [e0, line_back (by simp) (hw _ (by simp [wordsP])).1, hh]
  | open' a x us gs =>
    have e0 : nthS ((wordsP (.open' a x us gs)).map lineS) 0 = lineS [openS, numS a, x] := rfl
    have ne : ¬ openS = alikeS := by decide +kernel
    have hh : headW [openS, numS a, x] = none := by
      have h3 : headW [openS, numS a, x] = (if openS = alikeS then (match Mir.N.cntW (numS a), Mir.N.cntW x with
        | some a, some b => some (Head.alike a b)
        | _, _ => none) else if openS = openS then (match Mir.N.cntW (numS a) with
        | some a' => if nmB x = true then some (Head.open' a' x) else none
        | none => none) else none) := rfl
      rw [h3, if_neg ne, if_pos rfl, cnt_big h o.1.2]
    rw [e0, line_back (by simp) (hw _ (by simp [wordsP])).1, hh]
theorem nrm_q {m : Mem} {n : Nat} (q : Rat) : nrm m (n + 2) (qD q) = some (qD q) := nrm_iT (xs := [q.num, (q.den : Int)]) (by simp)
theorem nrm_ppr {B : Int} {p : Ppr} (o : OkP B p) {m : Mem} {n : Nat} : nrm m (n + 4) (pprD p) = some (pprD p) := by
  have row : ∀ qs : List Rat, qs.length ≤ 900 → nrm m (n + 3) (.tup (qs.map qD)) = some (.tup (qs.map qD)) := fun qs h => nrm_tup (n := n + 2) (fun q _ => nrm_q (n := n) q) (by omega)
  have st : ∀ x : Str, nrm m (n + 3) (.str x) = some (.str x) := fun x => by simp [nrm]
  have it : ∀ i : Int, nrm m (n + 3) (.int i) = some (.int i) := fun x => by simp [nrm]
  cases p with
  | alike a b gs =>
    have := nrm_tup (m := m) (n := n + 3) (f := id) (xs := [.str alikeS, .int a, .int b, .tup (gs.map qD)]) (fun d hd => by
      have : d = .str alikeS ∨ d = .int a ∨ d = .int b ∨ d = .tup (gs.map qD) := by simpa using hd
      rcases this with rfl | rfl | rfl | rfl
      · exact st _
      · exact it _
      · exact it _
      · exact row gs o.2.2.1) (by simp)
    rw [List.map_id] at this
    exact this
  | open' a x us gs =>
    have := nrm_tup (m := m) (n := n + 3) (f := id) (xs := [.str openS, .int a, .str x, .tup (us.map qD), .tup (gs.map qD)]) (fun d hd => by
      have : d = .str openS ∨ d = .int a ∨ d = .str x ∨ d = .tup (us.map qD) ∨ d = .tup (gs.map qD) := by simpa using hd
      rcases this with rfl | rfl | rfl | rfl | rfl
      · exact st _
      · exact it _
      · exact st _
      · exact row us o.2.2.1.1
      · exact row gs o.2.2.2.1) (by simp)
    rw [List.map_id] at this
    exact this
theorem alike_ppr {B : Int} {p : Ppr} (o : OkP B p) {m : Mem} : m__law_alike 12 [pprD p, pprD p] m = .ok (.bl true) m := alike_self (nrm_ppr (n := 8) o)
theorem read_back_then {p : Ppr} (o : OkP (10 ^ 9) p) (hl : (pT p).length ≤ 20000) {m : Mem} {P : D → Mem → Prop} (h : P (pprD p) m) : Tri (Mir.N.m_read_paper [.str (pT p)] m) P :=
  (read_paper_then (Ex := fun _ _ => False) hl (fun i e => by rw [p_back o] at e; cases e) (fun d e => by rw [p_back o] at e; cases e; exact h)).tri
end Pp
end Mir

namespace Lw
open PySem PySem.Spec PyProof.Rows L2 Mir Mir.Y
theorem hu1 {A : Around} {k : Nat} (hr : Room k A) : A.units + 65 < cLine := by have := hr.un; omega
theorem hd1 {A : Around} {k : Nat} (hr : Room k A) : A.units + 1 < cLine := by have := hr.un; omega
theorem hd2 {A : Around} {k : Nat} (hr : Room k A) : A.in1.in1.units < cLine := by have := hr.un; show A.units + 2 < cLine; omega
/-! ### the text -/
def topS (i : Nat) : Stmt := PySem.Challenge.pw_heaploom_k60_papers_written_and_read.main.body.getD i (.Pass ⟨0, 0, 0, 0⟩)
abbrev st_is_name : Stmt := topS 8
theorem sc_is_name : FnScope ["text", "sign"] ["text"] (defScope st_is_name) := ⟨rfl, rfl, rfl, by decide +kernel, rfl, by decide +kernel, by decide +kernel⟩
abbrev st_is_figures : Stmt := topS 9
theorem sc_is_figures : FnScope ["text", "figures", "sign"] ["text", "figures"] (defScope st_is_figures) := ⟨rfl, rfl, rfl, by decide +kernel, rfl, by decide +kernel, by decide +kernel⟩
abbrev st_number_of : Stmt := topS 10
theorem sc_number_of : FnScope ["text", "figures", "minus", "digits"] ["text", "figures"] (defScope st_number_of) := ⟨rfl, rfl, rfl, by decide +kernel, rfl, by decide +kernel, by decide +kernel⟩
abbrev st_common : Stmt := topS 13
theorem sc_common : FnScope ["one", "other"] ["one", "other"] (defScope st_common) := ⟨rfl, rfl, rfl, by decide +kernel, rfl, by decide +kernel, by decide +kernel⟩
abbrev st_fraction_text : Stmt := topS 14
theorem sc_fraction_text : FnScope ["one", "upper", "lower"] ["one"] (defScope st_fraction_text) := ⟨rfl, rfl, rfl, by decide +kernel, rfl, by decide +kernel, by decide +kernel⟩
abbrev st_fraction_of : Stmt := topS 15
theorem sc_fraction_of : FnScope ["text", "upper", "lower", "first", "stroke", "second"] ["text"] (defScope st_fraction_of) := ⟨rfl, rfl, rfl, by decide +kernel, rfl, by decide +kernel, by decide +kernel⟩
abbrev st_fractions_row : Stmt := topS 17
theorem sc_fractions_row : FnScope ["word", "some", "one"] ["word", "some"] (defScope st_fractions_row) := ⟨rfl, rfl, rfl, by decide +kernel, rfl, by decide +kernel, by decide +kernel⟩
abbrev st_paper_text : Stmt := topS 18
theorem sc_paper_text : FnScope ["paper", "rows"] ["paper"] (defScope st_paper_text) := ⟨rfl, rfl, rfl, by decide +kernel, rfl, by decide +kernel, by decide +kernel⟩
abbrev st_room_in : Stmt := topS 19
theorem sc_room_in : FnScope ["word", "found"] ["word"] (defScope st_room_in) := ⟨rfl, rfl, rfl, by decide +kernel, rfl, by decide +kernel, by decide +kernel⟩
abbrev st_head_in : Stmt := topS 20
theorem sc_head_in : FnScope ["row", "words", "one", "other"] ["row"] (defScope st_head_in) := ⟨rfl, rfl, rfl, by decide +kernel, rfl, by decide +kernel, by decide +kernel⟩
abbrev st_fractions_in : Stmt := topS 21
theorem sc_fractions_in : FnScope ["row", "word", "words", "found", "one"] ["row", "word"] (defScope st_fractions_in) := ⟨rfl, rfl, rfl, by decide +kernel, rfl, by decide +kernel, by decide +kernel⟩
abbrev st_read_paper : Stmt := topS 22
theorem sc_read_paper : FnScope ["text", "rows", "paper", "words", "at", "word", "found"] ["text"] (defScope st_read_paper) := ⟨rfl, rfl, rfl, by decide +kernel, rfl, by decide +kernel, by decide +kernel⟩
abbrev st__law_flow : Stmt := topS 24
theorem sc__law_flow : FnScope ["_law_script"] ["_law_script"] (defScope st__law_flow) := ⟨rfl, rfl, rfl, by decide +kernel, rfl, by decide +kernel, by decide +kernel⟩
abbrev st__law_pick : Stmt := topS 25
theorem sc__law_pick : FnScope ["_law_flow_here", "_law_many", "_law_cell", "_law_digit"] ["_law_flow_here", "_law_many"] (defScope st__law_pick) := ⟨rfl, rfl, rfl, by decide +kernel, rfl, by decide +kernel, by decide +kernel⟩
abbrev st__law_word : Stmt := topS 26
theorem sc__law_word : FnScope ["_law_flow_here", "_law_letters", "_law_word_here", "_law_k"] ["_law_flow_here"] (defScope st__law_word) := ⟨rfl, rfl, rfl, by decide +kernel, rfl, by decide +kernel, by decide +kernel⟩
abbrev st__law_alike : Stmt := topS 27
theorem sc__law_alike : FnScope ["_law_found", "_law_due", "_law_one", "_law_other"] ["_law_found", "_law_due"] (defScope st__law_alike) := ⟨rfl, rfl, rfl, by decide +kernel, rfl, by decide +kernel, by decide +kernel⟩
abbrev st__law_common : Stmt := topS 28
theorem sc__law_common : FnScope ["_law_one", "_law_other"] ["_law_one", "_law_other"] (defScope st__law_common) := ⟨rfl, rfl, rfl, by decide +kernel, rfl, by decide +kernel, by decide +kernel⟩
abbrev st__law_great_fraction : Stmt := topS 29
theorem sc__law_great_fraction : FnScope ["_law_flow_here", "_law_form", "_law_figures", "_law_upper", "_law_lower", "_law_by"] ["_law_flow_here"] (defScope st__law_great_fraction) := ⟨rfl, rfl, rfl, by decide +kernel, rfl, by decide +kernel, by decide +kernel⟩
abbrev st__law_paper : Stmt := topS 30
theorem sc__law_paper : FnScope ["_law_flow_here", "_law_many", "_law_room", "_law_goes", "_law_weights", "_law_k"] ["_law_flow_here"] (defScope st__law_paper) := ⟨rfl, rfl, rfl, by decide +kernel, rfl, by decide +kernel, by decide +kernel⟩
abbrev st__law_paper_text : Stmt := topS 31
theorem sc__law_paper_text : FnScope ["_law_paper_here", "_law_rows", "_law_word_here", "_law_some", "_law_one"] ["_law_paper_here"] (defScope st__law_paper_text) := ⟨rfl, rfl, rfl, by decide +kernel, rfl, by decide +kernel, by decide +kernel⟩
abbrev st__law_fraction_said : Stmt := topS 32
theorem sc__law_fraction_said : FnScope ["_law_one"] ["_law_one"] (defScope st__law_fraction_said) := ⟨rfl, rfl, rfl, by decide +kernel, rfl, by decide +kernel, by decide +kernel⟩
abbrev st__law_is_written_alone : Stmt := topS 33
theorem sc__law_is_written_alone : FnScope ["_law_flow_here", "_law_paper_here", "_law_great", "_law_text", "_law_row", "e"] ["_law_flow_here", "_law_paper_here"] (defScope st__law_is_written_alone) := ⟨rfl, rfl, rfl, by decide +kernel, rfl, by decide +kernel, by decide +kernel⟩
abbrev st_law : Stmt := topS 34
theorem sc_law : FnScope ["_law_script", "_law_flow_here", "_law_papers", "_law_paper_here", "_law_goes", "_law_text", "_law_turn", "_law_k"] ["_law_script"] (defScope st_law) := ⟨rfl, rfl, rfl, by decide +kernel, rfl, by decide +kernel, by decide +kernel⟩
abbrev sti_NoText : Stmt := match topS 2 with
  | .ClassDef (body := b) .. => b.getD 0 (.Pass ⟨0, 0, 0, 0⟩)
  | s => s
theorem sci_NoText : FnScope ["self", "row"] ["self", "row"] (defScope sti_NoText) := ⟨rfl, rfl, rfl, by decide +kernel, rfl, by decide +kernel, by decide +kernel⟩
theorem ok_init_NoText {P : Program} {w : World} {K : PySem.W.Frag} {mg : Str → Option Value} {base : Heap} {f B : Addr} {fd : FuncData} (F : Fun K "__init__" "NoText.__init__" sti_NoText f fd) (hm : mg "LoomError" = some (.ref B)) (LB : LoomC K B) : FnOk P w K mg base CX0 (0 + 1) f fd ["self", "row"] (spI1 K "row") :=
  init1_ok (tx := "no text") F sci_NoText fun cdv A outer s H E =>
    (pss_cons (ps_expr (pe_linit (by rfl) hm LB (pa_cons (pe_var rfl (.inl rfl)) (pa_cons pe_str pa_nil)))) (pss_cons (ps_ost (pe_var rfl (.inl rfl)) (pe_var rfl (.inl rfl))) pss_nil))
/-! ### the mirrors -/
def b__law_fraction_said_s1 : SM := (mRet (mOp (gAdd false) (mOp (gAdd false) (mCB bStr (mCons (mOp gIx (mVar 0) (mC (.int 0))) mNil)) (mC (.str (Str.ofString "/")))) (mCB bStr (mCons (mOp gIx (mVar 0) (mC (.int 1))) mNil))))
def b__law_fraction_said : SM := mSeq (mIfS (mTest (mOp (gEq false) (mOp gIx (mVar 0) (mC (.int 1))) (mC (.int 1)))) (mRet (mCB bStr (mCons (mOp gIx (mVar 0) (mC (.int 0))) mNil))) mSkip) b__law_fraction_said_s1
def m__law_fraction_said : FM := mFn 1 1 b__law_fraction_said
def b__law_great_fraction_s6 : SM := (mRet (mTup (mCons (mOp gFdiv (mVar 3) (mVar 5)) (mCons (mOp gFdiv (mVar 4) (mVar 5)) mNil))))
def b__law_great_fraction_s5 : SM := mSeq (mAsg (mCB bMax (mCons (mC (.int 1)) (mCons (mCall m__law_common (mCons (mVar 3) (mCons (mVar 4) mNil))) mNil))) (gNm 5)) b__law_great_fraction_s6
def b__law_great_fraction_s4 : SM := mSeq (mAsg (mOp (gAdd false) (mC (.int 1)) (mCall m__law_pick (mCons (mVar 0) (mCons (mOp gSub (mOp gIx (mVar 2) (mCall m__law_pick (mCons (mVar 0) (mCons (mC (.int 4)) mNil)))) (mC (.int 1))) mNil)))) (gNm 4)) b__law_great_fraction_s5
def b__law_great_fraction_s3 : SM := mSeq (mIfS (mTest (mOp gLt (mVar 1) (mC (.int 2)))) (mRet (mTup (mCons (mOp gMulI (mVar 3) (mVar 1)) (mCons (mC (.int 1)) mNil)))) mSkip) b__law_great_fraction_s4
def b__law_great_fraction_s2 : SM := mSeq (mAsg (mOp gMulI (mCall m__law_pick (mCons (mVar 0) (mCons (mOp gIx (mVar 2) (mCall m__law_pick (mCons (mVar 0) (mCons (mC (.int 4)) mNil)))) mNil))) (mOp gSub (mC (.int 1)) (mOp gMulI (mC (.int 2)) (mCall m__law_pick (mCons (mVar 0) (mCons (mC (.int 2)) mNil)))))) (gNm 3)) b__law_great_fraction_s3
def b__law_great_fraction_s1 : SM := mSeq (mAsg (mLst false (mCons (mC (.int 10)) (mCons (mC (.int 1000)) (mCons (mOp gPow (mC (.int 10)) (mC (.int 12))) (mCons (mOp gPow (mC (.int 10)) (mC (.int 30))) mNil))))) (gNm 2)) b__law_great_fraction_s2
def b__law_great_fraction : SM := mSeq (mAsg (mCall m__law_pick (mCons (mVar 0) (mCons (mC (.int 4)) mNil))) (gNm 1)) b__law_great_fraction_s1
def m__law_great_fraction : FM := mFn 1 6 b__law_great_fraction
def b__law_paper_text_s3 : SM := (mRet (mBM "str" gJoin (mC (.str (Str.ofString "\n"))) (mCons (mVar 1) mNil)))
def b__law_paper_text_s2 : SM := mSeq (mIfS (mTest (mOp (gEq false) (mOp gIx (mVar 0) (mC (.int 0))) (mC (.str (Str.ofString "alike"))))) (mDrop (mBM "list" gAppend (mVar 1) (mCons (mBM "str" gJoin (mC (.str (Str.ofString " "))) (mCons (mOp (gAdd false) (mLst false (mCons (mC (.str (Str.ofString "goes"))) mNil)) (mLc [4] false (mIt (mOp gIx (mVar 0) (mC (.int 3)))) (gNm 4) mYes (mCall m__law_fraction_said (mCons (mVar 4) mNil)))) mNil)) mNil))) mSkip) b__law_paper_text_s3
def b__law_paper_text_s1 : SM := mSeq (mFor (mIt (mSl (gSl false) (mListZip false (mLst false (mCons (mC (.str (Str.ofString "weights"))) (mCons (mC (.str (Str.ofString "goes"))) mNil))) (mSl (gSl false) (mVar 0) (mPart (mC (.int 3))) mNoPart)) mNoPart (mPart (mOp gMulI (mCB bLen (mCons (mSl (gSl false) (mVar 0) (mPart (mC (.int 4))) mNoPart) mNil)) (mC (.int 2)))))) (gTp 2 (gsCons (gNm 2) (gsCons (gNm 3) gsNil))) (mDrop (mBM "list" gAppend (mVar 1) (mCons (mBM "str" gJoin (mC (.str (Str.ofString " "))) (mCons (mOp (gAdd false) (mLst false (mCons (mVar 2) mNil)) (mLc [4] false (mIt (mVar 3)) (gNm 4) mYes (mCall m__law_fraction_said (mCons (mVar 4) mNil)))) mNil)) mNil)))) b__law_paper_text_s2
def b__law_paper_text : SM := mSeq (mAsg (mLst true (mCons (mBM "str" gJoin (mC (.str (Str.ofString " "))) (mCons (mLst false (mCons (mOp gIx (mVar 0) (mC (.int 0))) (mCons (mCB bStr (mCons (mOp gIx (mVar 0) (mC (.int 1))) mNil)) (mCons (mCB bStrA (mCons (mOp gIx (mVar 0) (mC (.int 2))) mNil)) mNil)))) mNil)) mNil)) (gNm 1)) b__law_paper_text_s1
def m__law_paper_text : FM := mFn 1 5 b__law_paper_text
def b__law_paper_s5 : SM := (mRet (mTup (mCons (mC (.str (Str.ofString "open"))) (mCons (mVar 2) (mCons (mCall m__law_word (mCons (mVar 0) mNil)) (mCons (mVar 4) (mCons (mVar 3) mNil)))))))
def b__law_paper_s4 : SM := mSeq (mAsg (mCB bTuple (mCons (mLc [5] false (mRng1 (mCall m__law_pick (mCons (mVar 0) (mCons (mC (.int 9)) mNil)))) (gNm 5) mYes (mCall m__law_great_fraction (mCons (mVar 0) mNil))) mNil)) (gNm 4)) b__law_paper_s5
def b__law_paper_s3 : SM := mSeq (mIfS (mTest (mOp (gEq false) (mCall m__law_pick (mCons (mVar 0) (mCons (mC (.int 2)) mNil))) (mC (.int 0)))) (mRet (mTup (mCons (mC (.str (Str.ofString "alike"))) (mCons (mVar 2) (mCons (mCall m__law_pick (mCons (mVar 0) (mCons (mOp gIx (mLst false (mCons (mC (.int 9)) (mCons (mOp gPow (mC (.int 10)) (mC (.int 9))) mNil))) (mCall m__law_pick (mCons (mVar 0) (mCons (mC (.int 2)) mNil)))) mNil))) (mCons (mVar 3) mNil)))))) mSkip) b__law_paper_s4
def b__law_paper_s2 : SM := mSeq (mAsg (mCB bTuple (mCons (mLc [5] false (mRng1 (mVar 1)) (gNm 5) mYes (mCall m__law_great_fraction (mCons (mVar 0) mNil))) mNil)) (gNm 3)) b__law_paper_s3
def b__law_paper_s1 : SM := mSeq (mAsg (mCall m__law_pick (mCons (mVar 0) (mCons (mOp gIx (mLst false (mCons (mC (.int 9)) (mCons (mOp gPow (mC (.int 10)) (mC (.int 9))) mNil))) (mCall m__law_pick (mCons (mVar 0) (mCons (mC (.int 2)) mNil)))) mNil))) (gNm 2)) b__law_paper_s2
def b__law_paper : SM := mSeq (mAsg (mOp gIx (mLst false (mCons (mCall m__law_pick (mCons (mVar 0) (mCons (mC (.int 6)) mNil))) (mCons (mCall m__law_pick (mCons (mVar 0) (mCons (mC (.int 17)) mNil))) mNil))) (mCall m__law_pick (mCons (mVar 0) (mCons (mC (.int 2)) mNil)))) (gNm 1)) b__law_paper_s1
def m__law_paper : FM := mFn 1 6 b__law_paper
def b__law_is_written_alone_s5 : SM := (mRet (mCall (m__law_alike 12) (mCons (mVar 4) (mCons (mC (.int 0)) mNil))))
def b__law_is_written_alone_s4 : SM := mSeq (mTry 6 (mDrop (mCallX Mir.N.m_read_paper (mCons (mVar 3) mNil))) [⟨[("NoText", true)], some 5, (mAsg (mXf ["NoText"] "row" (mVar 5)) (gNm 4))⟩]) b__law_is_written_alone_s5
def b__law_is_written_alone_s3 : SM := mSeq (mAsg (mOp gSub (mC (.int 0)) (mC (.int 1))) (gNm 4)) b__law_is_written_alone_s4
def b__law_is_written_alone_s2 : SM := mSeq (mIfS (mNot (mTru (mCall (m__law_alike 12) (mCons (mCall Mir.N.m_paper_text (mCons (mVar 2) mNil)) (mCons (mVar 3) mNil))))) (mRet (mC (.bl false))) mSkip) b__law_is_written_alone_s3
def b__law_is_written_alone_s1 : SM := mSeq (mAsg (mCall m__law_paper_text (mCons (mVar 2) mNil)) (gNm 3)) b__law_is_written_alone_s2
def b__law_is_written_alone : SM := mSeq (mAsg (mOp (gAdd false) (mTup (mCons (mOp gIx (mVar 1) (mC (.int 0))) (mCons (mOp (gAdd false) (mOp gPow (mC (.int 10)) (mC (.int 9))) (mCall m__law_pick (mCons (mVar 0) (mCons (mOp gPow (mC (.int 10)) (mC (.int 6))) mNil)))) mNil))) (mSl (gSl false) (mVar 1) (mPart (mC (.int 2))) mNoPart)) (gNm 2)) b__law_is_written_alone_s1
def m__law_is_written_alone : FM := mFn 2 6 b__law_is_written_alone
def b_law_0s1 : SM := (mAsg (mOp (gAdd false) (mSl (gSl false) (mOp gIx (mVar 2) (mC (.int 1))) mNoPart (mPart (mUn gNeg (mC (.int 1))))) (mTup (mCons (mCB bTuple (mCons (mVar 4) mNil)) mNil))) (gSubT (mVar 2) (mC (.int 1))))
def b_law_0 : SM := mSeq (mAsg (mLc [7] false (mRng1 (mOp (gAdd false) (mC (.int 30)) (mCall m__law_pick (mCons (mVar 1) (mCons (mOp gIx (mLst false (mCons (mC (.int 90)) (mCons (mC (.int 500)) mNil))) (mCall m__law_pick (mCons (mVar 1) (mCons (mC (.int 2)) mNil)))) mNil))))) (gNm 7) mYes (mTup (mCons (mOp gSub (mCall m__law_pick (mCons (mVar 1) (mCons (mC (.int 9)) mNil))) (mC (.int 4))) (mCons (mC (.int 1)) mNil)))) (gNm 4)) b_law_0s1
def b_law_1s1 : SM := (mIfS (mNot (mTru (mCall (m__law_alike 12) (mCons (mCall Mir.N.m_paper_text (mCons (mCallX Mir.N.m_read_paper (mCons (mVar 5) mNil)) mNil)) (mCons (mVar 5) mNil))))) (mRet (mC (.bl false))) mSkip)
def b_law_1 : SM := mSeq (mIfS (mOr (mNot (mTru (mCall (m__law_alike 12) (mCons (mCall Mir.N.m_paper_text (mCons (mVar 3) mNil)) (mCons (mVar 5) mNil))))) (mNot (mTru (mCall (m__law_alike 12) (mCons (mCallX Mir.N.m_read_paper (mCons (mVar 5) mNil)) (mCons (mVar 3) mNil)))))) (mRet (mC (.bl false))) mSkip) b_law_1s1
def b_law_2s1 : SM := (mIfS (mTest (mOp gLe (mCB bLen (mCons (mVar 5) mNil)) (mC (.int 2000)))) b_law_1 mSkip)
def b_law_2 : SM := mSeq (mAsg (mCall m__law_paper_text (mCons (mVar 3) mNil)) (gNm 5)) b_law_2s1
def b_law_s4 : SM := (mRet (mCall m__law_is_written_alone (mCons (mVar 1) (mCons (mOp gIx (mVar 2) (mC (.int 0))) mNil))))
def b_law_s3 : SM := mSeq (mFor (mIt (mOp (gAdd false) (mVar 2) (mSl (gSl false) (mVar 2) mNoPart (mPart (mC (.int 1)))))) (gNm 3) b_law_2) b_law_s4
def b_law_s2 : SM := mSeq (mIfS (mTest (mOp (gEq false) (mCall m__law_pick (mCons (mVar 1) (mCons (mC (.int 8)) mNil))) (mC (.int 0)))) b_law_0 mSkip) b_law_s3
def b_law_s1 : SM := mSeq (mAsg (mLc [6] true (mRng1 (mC (.int 2))) (gNm 6) mYes (mCall m__law_paper (mCons (mVar 1) mNil))) (gNm 2)) b_law_s2
def b_law : SM := mSeq (mAsg (mCall m__law_flow (mCons (mVar 0) mNil)) (gNm 1)) b_law_s1
def m_law : FM := mFn 1 8 b_law
/-! ### the walks -/
structure Tx (K : PySem.W.Frag) (mg : Str → Option Value) : Prop where
  b_abs : mg "abs" = none
  b_all : mg "all" = none
  b_bool : mg "bool" = none
  b_enumerate : mg "enumerate" = none
  b_int : mg "int" = none
  b_isinstance : mg "isinstance" = none
  b_len : mg "len" = none
  b_list : mg "list" = none
  b_max : mg "max" = none
  b_range : mg "range" = none
  b_str : mg "str" = none
  b_tuple : mg "tuple" = none
  b_zip : mg "zip" = none
  g_LETTERS : GlobD K mg "LETTERS" gd_LETTERS
  g_FIGURES : GlobD K mg "FIGURES" gd_FIGURES
  g_LONGEST_NAME : GlobD K mg "LONGEST_NAME" gd_LONGEST_NAME
  g_KEPT_WORDS : GlobD K mg "KEPT_WORDS" gd_KEPT_WORDS
  g_MOST_FIGURES : GlobD K mg "MOST_FIGURES" gd_MOST_FIGURES
  xin : ∀ x, [("NoText" : Str)].contains x = true → XIn K mg x
  c_NoText : ∃ D, mg "NoText" = some (.ref D)
  ex_NoText_NoText : ExK K mg "NoText" "NoText" true
  fld_row : ∀ x, [("NoText" : Str)].contains x = true → XFld K mg x "row"
section
variable {P : Program} {w : World} {K : PySem.W.Frag} {mg : Str → Option Value} {base : Heap}
theorem ok_is_name (T : Tx K mg) {f : Addr} {fd : FuncData} (F : Fun K "is_name" "is_name" st_is_name f fd) : FnOk P w K mg base CX0 1 f fd ["text"] (sp0 K mg m_is_name) :=
  fn_ok0 F sc_is_name fun cdv A outer s H E hr =>
    (mss_cons (ms_if (mw_or (mt_not (mt_chain om_le om_le me_int (me_callB cm_len T.b_len (by rfl) PySem.boot_len (ma_cons (mv 0) ma_nil)) (me_glob T.g_LONGEST_NAME (by rfl)))) (mw_or1 (mt_cmp (om_in (hu1 hr)) (mv 0) (me_glob T.g_KEPT_WORDS (by rfl)) rfl))).pt (mss_one (ms_ret me_bl)) mss_nil)
    (mss_one (ms_ret (me_callB (cm_all rfl) T.b_all (by rfl) boot_all (ma_cons (me_lc false [("sign", 1)] rfl sc_is_name.nd (mi_it (mv 0)) (blkOk_by (by kernel_rfl)) (fun _ _ _ _ _ => (mg_name (by decide) sc_is_name.nd rfl (by first | exact .inl rfl | exact .inr rfl))) (fun _ _ _ _ _ => mts_nil) (fun _ _ _ _ _ => (me_cmp (om_in (hu1 hr)) (mv 1) (me_glob T.g_LETTERS (by rfl)) rfl))) ma_nil)))))
theorem ok_is_figures (T : Tx K mg) {f : Addr} {fd : FuncData} (F : Fun K "is_figures" "is_figures" st_is_figures f fd) : FnOk P w K mg base CX0 1 f fd ["text", "figures"] (sp0 K mg m_is_figures) :=
  fn_ok0 F sc_is_figures fun cdv A outer s H E hr =>
    (mss_cons (ms_if (mw_or (mt_not (mt_chain om_le om_le me_int (me_callB cm_len T.b_len (by rfl) PySem.boot_len (ma_cons (mv 0) ma_nil)) (mv 1))) (mw_or1 (mt_not (mt_tru (me_callB (cm_all rfl) T.b_all (by rfl) boot_all (ma_cons (me_lc false [("sign", 2)] rfl sc_is_figures.nd (mi_it (mv 0)) (blkOk_by (by kernel_rfl)) (fun _ _ _ _ _ => (mg_name (by decide) sc_is_figures.nd rfl (by first | exact .inl rfl | exact .inr rfl))) (fun _ _ _ _ _ => mts_nil) (fun _ _ _ _ _ => (me_cmp (om_in (hu1 hr)) (mv 2) (me_glob T.g_FIGURES (by rfl)) rfl))) ma_nil)))))).pt (mss_one (ms_ret me_bl)) mss_nil)
    (mss_one (ms_ret (me_or (me_cmp (om_eq hr.units) (mv 0) me_str (nomark _)) (pe_one (me_cmp (om_ne hr.units) (me_ix im_ix (mv 0) me_int (fun _ _ => rfl)) me_str (nomark _)))))))
theorem ok_number_of (T : Tx K mg) (h_is_figures : FnD P w K mg base 1 "is_figures" ["text", "figures"] m_is_figures) {f : Addr} {fd : FuncData} (F : FunT K "number_of" "number_of" st_number_of [.int 9] f fd) : FnOk P w K mg base CX0 2 f fd ["text", "figures"] (sp0 K mg m_number_of) :=
  fn_okT F sc_number_of fun cdv A outer s H E hr =>
    (mss_cons (ms_set sc_number_of.nd rfl (by first | exact .inl rfl | exact .inr rfl) (me_cmp (om_eq hr.units) (me_sl (sm_sl false) (mv 0) mo_none (mo_some me_int)) me_str (nomark _)))
    (mss_cons (ms_set sc_number_of.nd rfl (by first | exact .inl rfl | exact .inr rfl) (me_if (mt_tru (mv 2)) (me_sl (sm_sl false) (mv 0) (mo_some me_int) mo_none) (mv 0)))
    (mss_cons (ms_if (mw_or (mt_not (mt_tru (me_call h_is_figures (hr.mono (by decide)) (by rfl) (ma_cons (mv 3) (ma_cons (mv 1) ma_nil))))) (mw_or1 (mw_and (mt_tru (mv 2)) (mw_and1 (mt_cmp (om_eq hr.units) (mv 3) me_str (nomark _)))).pt)).pt (mss_one (ms_ret me_non)) mss_nil)
    (mss_cons (ms_if (mt_tru (mv 2)) (mss_one (ms_ret (me_op om_sub me_int (me_callTy cm_int T.b_int (by rfl) boot_int (ma_cons (mv 3) ma_nil))))) mss_nil)
    (mss_one (ms_ret (me_callTy cm_int T.b_int (by rfl) boot_int (ma_cons (mv 3) ma_nil))))))))
theorem ok_common (T : Tx K mg) {f : Addr} {fd : FuncData} (F : Fun K "common" "common" st_common f fd) : FnOk P w K mg base CX0 1 f fd ["one", "other"] (sp0 K mg m_common) :=
  fn_ok0 F sc_common fun cdv A outer s H E hr =>
    (mss_cons (ms_while PassesOwn.never (mt_cmp (om_ne hr.units) (mv 1) me_int (nomark _)) (mss_one (ms_par rfl sc_common.nd rfl rfl (by decide) rfl rfl (ma_cons (mv 1) (ma_cons (me_op om_mod (mv 0) (mv 1)) ma_nil)))))
    (mss_one (ms_ret (me_callB cm_abs T.b_abs (by rfl) boot_abs (ma_cons (mv 0) ma_nil)))))
theorem ok_fraction_text (T : Tx K mg) {f : Addr} {fd : FuncData} (F : Fun K "fraction_text" "fraction_text" st_fraction_text f fd) : FnOk P w K mg base CX0 1 f fd ["one"] (sp0 K mg Mir.N.m_fraction_text) :=
  fn_ok0 F sc_fraction_text fun cdv A outer s H E hr =>
    (mss_cons (ms_asg (vs := [1, 2]) (mv 0) (mg_tup rfl (mgs_cons (mg_name (by decide) sc_fraction_text.nd rfl (by first | exact .inl rfl | exact .inr rfl)) (mgs_cons (mg_name (by decide) sc_fraction_text.nd rfl (by first | exact .inl rfl | exact .inr rfl)) mgs_nil))))
    (mss_cons (ms_if (mt_cmp (om_eq hr.units) (mv 2) me_int (nomark _)) (mss_one (ms_ret (me_callTy cm_str T.b_str (by rfl) boot_str (ma_cons (mv 1) ma_nil)))) mss_nil)
    (mss_one (ms_ret (me_joined (MJ.cons (me_fmt (mv 1)) (MJ.cons me_str (MJ.cons (me_fmt (mv 2)) MJ.nil))))))))
theorem ok_fraction_of (T : Tx K mg) (h_common : FnD P w K mg base 1 "common" ["one", "other"] m_common) (k_number_of_1_figures : FnK P w K mg base 2 "number_of" 1 ["figures"] [0, 1] [.int 9] m_number_of) {f : Addr} {fd : FuncData} (F : Fun K "fraction_of" "fraction_of" st_fraction_of f fd) : FnOk P w K mg base CX0 3 f fd ["text"] (sp0 K mg m_fraction_of) :=
  fn_ok0 F sc_fraction_of fun cdv A outer s H E hr =>
    (mss_cons (ms_asg (vs := [3, 4, 5]) (me_bm PySem.F.plainAttrs_str PySem.F.slot_str_partition PySem.F.type_str_partition mm_partition (mv 0) (ma_cons me_str ma_nil)) (mg_tup rfl (mgs_cons (mg_name (by decide) sc_fraction_of.nd rfl (by first | exact .inl rfl | exact .inr rfl)) (mgs_cons (mg_name (by decide) sc_fraction_of.nd rfl (by first | exact .inl rfl | exact .inr rfl)) (mgs_cons (mg_name (by decide) sc_fraction_of.nd rfl (by first | exact .inl rfl | exact .inr rfl)) mgs_nil)))))
    (mss_cons (ms_set sc_fraction_of.nd rfl (by first | exact .inl rfl | exact .inr rfl) (me_callK k_number_of_1_figures (hr.mono (by decide)) (by rfl) (ma_cons (mv 3) ma_nil) (mk_cons (me_glob T.g_MOST_FIGURES (by rfl)) mk_nil)))
    (mss_cons (ms_if (mt_cmp om_is (mv 1) me_non (nomark _)) (mss_one (ms_ret me_non)) mss_nil)
    (mss_cons (ms_if (mt_cmp (om_eq hr.units) (mv 4) me_str (nomark _)) (mss_one (ms_ret (me_tup (ma_cons (mv 1) (ma_cons me_int ma_nil))))) mss_nil)
    (mss_cons (ms_set sc_fraction_of.nd rfl (by first | exact .inl rfl | exact .inr rfl) (me_callK k_number_of_1_figures (hr.mono (by decide)) (by rfl) (ma_cons (mv 5) ma_nil) (mk_cons (me_glob T.g_MOST_FIGURES (by rfl)) mk_nil)))
    (mss_cons (ms_if (mw_or (mt_cmp om_is (mv 2) me_non (nomark _)) (mw_or (mt_cmp om_lt (mv 2) me_int (nomark _)) (mw_or1 (mt_cmp (om_ne hr.units) (me_call h_common (hr.mono (by decide)) (by rfl) (ma_cons (mv 1) (ma_cons (mv 2) ma_nil))) me_int (nomark _))))).pt (mss_one (ms_ret me_non)) mss_nil)
    (mss_one (ms_ret (me_tup (ma_cons (mv 1) (ma_cons (mv 2) ma_nil)))))))))))
theorem ok_fractions_row (T : Tx K mg) (h_fraction_text : FnD P w K mg base 1 "fraction_text" ["one"] Mir.N.m_fraction_text) {f : Addr} {fd : FuncData} (F : Fun K "fractions_row" "fractions_row" st_fractions_row f fd) : FnOk P w K mg base CX0 2 f fd ["word", "some"] (sp0 K mg Mir.N.m_fractions_row) :=
  fn_ok0 F sc_fractions_row fun cdv A outer s H E hr =>
    (mss_one (ms_ret (me_bm PySem.F.plainAttrs_str PySem.F.slot_str_join PySem.F.type_str_join mm_join me_str (ma_cons (me_op (om_add false) (me_lst false (ma_cons (mv 0) ma_nil)) (me_lc false [("one", 2)] rfl sc_fractions_row.nd (mi_it (mv 1)) (blkOk_by (by kernel_rfl)) (fun _ _ _ _ _ => (mg_name (by decide) sc_fractions_row.nd rfl (by first | exact .inl rfl | exact .inr rfl))) (fun _ _ _ _ _ => mts_nil) (fun _ _ _ _ _ => (me_call h_fraction_text (hr.mono (by decide)) (by rfl) (ma_cons (mv 2) ma_nil))))) ma_nil))))
theorem ok_paper_text (T : Tx K mg) (h_fractions_row : FnD P w K mg base 2 "fractions_row" ["word", "some"] Mir.N.m_fractions_row) {f : Addr} {fd : FuncData} (F : Fun K "paper_text" "paper_text" st_paper_text f fd) : FnOk P w K mg base CX0 3 f fd ["paper"] (sp0 K mg Mir.N.m_paper_text) :=
  fn_ok0 F sc_paper_text fun cdv A outer s H E hr =>
    (mss_cons (ms_set sc_paper_text.nd rfl (by first | exact .inl rfl | exact .inr rfl) (me_lst true (ma_cons (me_bm PySem.F.plainAttrs_str PySem.F.slot_str_join PySem.F.type_str_join mm_join me_str (ma_cons (me_lst false (ma_cons (me_ix im_ix (mv 0) me_int (fun _ _ => rfl)) (ma_cons (me_callTy cm_str T.b_str (by rfl) boot_str (ma_cons (me_ix im_ix (mv 0) me_int (fun _ _ => rfl)) ma_nil)) (ma_cons (me_callTy cm_strA T.b_str (by rfl) boot_str (ma_cons (me_ix im_ix (mv 0) me_int (fun _ _ => rfl)) ma_nil)) ma_nil)))) ma_nil)) ma_nil)))
    (mss_cons (ms_if (mt_cmp (om_eq hr.units) (me_ix im_ix (mv 0) me_int (fun _ _ => rfl)) me_str (nomark _)) (mss_one (ms_expr (me_bm PySem.F.plainAttrs_list PySem.F.slot_list_append PySem.F.type_list_append mm_append (mv 1) (ma_cons (me_call h_fractions_row (hr.mono (by decide)) (by rfl) (ma_cons me_str (ma_cons (me_ix im_ix (mv 0) me_int (fun _ _ => rfl)) ma_nil))) ma_nil)))) mss_nil)
    (mss_one (ms_ret (me_bm PySem.F.plainAttrs_str PySem.F.slot_str_join PySem.F.type_str_join mm_join me_str (ma_cons (me_op (om_add false) (mv 1) (me_lst false (ma_cons (me_call h_fractions_row (hr.mono (by decide)) (by rfl) (ma_cons me_str (ma_cons (me_ix im_ix (mv 0) (me_un um_neg me_int) (fun _ _ => rfl)) ma_nil))) ma_nil))) ma_nil))))))
theorem ok_room_in (T : Tx K mg) (k_number_of_1_ : FnK P w K mg base 2 "number_of" 1 [] [0, 1] [.int 9] m_number_of) {f : Addr} {fd : FuncData} (F : Fun K "room_in" "room_in" st_room_in f fd) : FnOk P w K mg base CX0 3 f fd ["word"] (sp0 K mg Mir.N.m_room_in) :=
  fn_ok0 F sc_room_in fun cdv A outer s H E hr =>
    (mss_cons (ms_set sc_room_in.nd rfl (by first | exact .inl rfl | exact .inr rfl) (me_callD k_number_of_1_ (hr.mono (by decide)) (by rfl) (ma_cons (mv 0) ma_nil)))
    (mss_cons (ms_if (mw_or (mt_cmp om_is (mv 1) me_non (nomark _)) (mw_or1 (mt_cmp om_lt (mv 1) me_int (nomark _)))).pt (mss_one (ms_ret me_non)) mss_nil)
    (mss_one (ms_ret (mv 1)))))
theorem ok_head_in (T : Tx K mg) (h_is_name : FnD P w K mg base 1 "is_name" ["text"] m_is_name) (h_room_in : FnD P w K mg base 3 "room_in" ["word"] Mir.N.m_room_in) {f : Addr} {fd : FuncData} (F : Fun K "head_in" "head_in" st_head_in f fd) : FnOk P w K mg base CX0 4 f fd ["row"] (sp0 K mg Mir.N.m_head_in) :=
  fn_ok0 F sc_head_in fun cdv A outer s H E hr =>
    (mss_cons (ms_set sc_head_in.nd rfl (by first | exact .inl rfl | exact .inr rfl) (me_bm PySem.F.plainAttrs_str PySem.F.slot_str_split PySem.F.type_str_split (mm_split false) (mv 0) (ma_cons me_str ma_nil)))
    (mss_cons (ms_if (mw_or (mt_cmp (om_ne hr.units) (me_callB cm_len T.b_len (by rfl) PySem.boot_len (ma_cons (mv 1) ma_nil)) me_int (nomark _)) (mw_or1 (mt_cmp (om_notin (hu1 hr)) (me_ix im_ix (mv 1) me_int (fun _ _ => rfl)) (me_tup (ma_cons me_str (ma_cons me_str ma_nil))) rfl))).pt (mss_one (ms_ret me_non)) mss_nil)
    (mss_cons (ms_set sc_head_in.nd rfl (by first | exact .inl rfl | exact .inr rfl) (me_call h_room_in (hr.mono (by decide)) (by rfl) (ma_cons (me_ix im_ix (mv 1) me_int (fun _ _ => rfl)) ma_nil)))
    (mss_cons (ms_set sc_head_in.nd rfl (by first | exact .inl rfl | exact .inr rfl) (me_ix im_ix (mv 1) me_int (fun _ _ => rfl)))
    (mss_cons (ms_if (mt_cmp (om_eq hr.units) (me_ix im_ix (mv 1) me_int (fun _ _ => rfl)) me_str (nomark _)) (mss_one (ms_set sc_head_in.nd rfl (by first | exact .inl rfl | exact .inr rfl) (me_call h_room_in (hr.mono (by decide)) (by rfl) (ma_cons (me_ix im_ix (mv 1) me_int (fun _ _ => rfl)) ma_nil)))) (mss_one (ms_if (mt_not (mt_tru (me_call h_is_name (hr.mono (by decide)) (by rfl) (ma_cons (me_ix im_ix (mv 1) me_int (fun _ _ => rfl)) ma_nil)))) (mss_one (ms_set sc_head_in.nd rfl (by first | exact .inl rfl | exact .inr rfl) me_non)) mss_nil)))
    (mss_cons (ms_if (mw_or (mt_cmp om_is (mv 2) me_non (nomark _)) (mw_or1 (mt_cmp om_is (mv 3) me_non (nomark _)))).pt (mss_one (ms_ret me_non)) mss_nil)
    (mss_one (ms_ret (me_tup (ma_cons (me_ix im_ix (mv 1) me_int (fun _ _ => rfl)) (ma_cons (mv 2) (ma_cons (mv 3) ma_nil))))))))))))
theorem ok_fractions_in (T : Tx K mg) (h_fraction_of : FnD P w K mg base 3 "fraction_of" ["text"] m_fraction_of) {f : Addr} {fd : FuncData} (F : Fun K "fractions_in" "fractions_in" st_fractions_in f fd) : FnOk P w K mg base CX0 4 f fd ["row", "word"] (sp0 K mg Mir.N.m_fractions_in) :=
  fn_ok0 F sc_fractions_in fun cdv A outer s H E hr =>
    (mss_cons (ms_set sc_fractions_in.nd rfl (by first | exact .inl rfl | exact .inr rfl) (me_bm PySem.F.plainAttrs_str PySem.F.slot_str_split PySem.F.type_str_split (mm_split false) (mv 0) (ma_cons me_str ma_nil)))
    (mss_cons (ms_setLc false [("one", 4)] rfl sc_fractions_in.nd rfl rfl (sw_true rfl rfl rfl (by decide +kernel)) (mi_it (me_sl (sm_sl false) (mv 2) (mo_some me_int) mo_none)) (blkOk_by (by kernel_rfl)) (fun _ _ _ _ _ => (mg_name (by decide) sc_fractions_in.nd rfl (by first | exact .inl rfl | exact .inr rfl))) (fun _ _ _ _ _ => mts_nil) (fun _ _ _ _ _ => (me_call h_fraction_of (hr.mono (by decide)) (by rfl) (ma_cons (mv 4) ma_nil))))
    (mss_cons (ms_if (mw_or (mt_cmp (om_ne hr.units) (me_ix im_ix (mv 2) me_int (fun _ _ => rfl)) (mv 1) (nomark _)) (mw_or1 (mt_cmp (om_in (hu1 hr)) me_non (mv 3) rfl))).pt (mss_one (ms_ret me_non)) mss_nil)
    (mss_one (ms_ret (me_callTy cm_tuple T.b_tuple (by rfl) boot_tuple (ma_cons (mv 3) ma_nil)))))))
theorem ok_read_paper (T : Tx K mg) (h_fractions_in : FnD P w K mg base 4 "fractions_in" ["row", "word"] Mir.N.m_fractions_in) (h_head_in : FnD P w K mg base 4 "head_in" ["row"] Mir.N.m_head_in) (x_NoText : XMk P w K mg base "NoText" ["row"]) {f : Addr} {fd : FuncData} (F : Fun K "read_paper" "read_paper" st_read_paper f fd) : FnOk P w K mg base (L2.CX P w) 5 f fd ["text"] (spX K mg Mir.N.m_read_paper) :=
  fn_okX F sc_read_paper fun cdv A outer s H E hr tk po =>
    (mss_cons (ms_set sc_read_paper.nd rfl (by first | exact .inl rfl | exact .inr rfl) (me_bm PySem.F.plainAttrs_str PySem.F.slot_str_split PySem.F.type_str_split (mm_split false) (mv 0) (ma_cons me_str ma_nil)))
    (mss_cons (ms_set sc_read_paper.nd rfl (by first | exact .inl rfl | exact .inr rfl) (me_call h_head_in (hr.mono (by decide)) (by rfl) (ma_cons (me_ix im_ix (mv 1) me_int (fun _ _ => rfl)) ma_nil)))
    (mss_cons (ms_if (mt_cmp om_is (mv 2) me_non (nomark _)) (mss_one (ms_raise x_NoText (by decide) rfl tk (hr.mono (by decide)) (by rfl) (by decide) (ma_cons me_int ma_nil))) mss_nil)
    (mss_cons (ms_set sc_read_paper.nd rfl (by first | exact .inl rfl | exact .inr rfl) (me_lst false (ma_cons me_str ma_nil)))
    (mss_cons (ms_if (mt_cmp (om_eq hr.units) (me_ix im_ix (mv 2) me_int (fun _ _ => rfl)) me_str (nomark _)) (mss_one (ms_set sc_read_paper.nd rfl (by first | exact .inl rfl | exact .inr rfl) (me_lst false (ma_cons me_str (ma_cons me_str ma_nil))))) mss_nil)
    (mss_cons (ms_for (vs := [4, 5]) po rfl (mi_enum T.b_enumerate (by rfl) (mv 3)) (mg_tupW rfl (mgs_cons (mg_name (by decide) sc_read_paper.nd rfl (by first | exact .inl rfl | exact .inr rfl)) (mgs_cons (mg_name (by decide) sc_read_paper.nd rfl (by first | exact .inl rfl | exact .inr rfl)) mgs_nil))) (mss_cons (ms_if (mt_cmp om_ge (me_op (om_add false) (mv 4) me_int) (me_callB cm_len T.b_len (by rfl) PySem.boot_len (ma_cons (mv 1) ma_nil)) (nomark _)) (mss_one (ms_raise x_NoText (by decide) rfl tk (hr.mono (by decide)) (by rfl) (by decide) (ma_cons (me_callB cm_len T.b_len (by rfl) PySem.boot_len (ma_cons (mv 1) ma_nil)) ma_nil))) mss_nil)
    (mss_cons (ms_set sc_read_paper.nd rfl (by first | exact .inl rfl | exact .inr rfl) (me_call h_fractions_in (hr.mono (by decide)) (by rfl) (ma_cons (me_ix im_ix (mv 1) (me_op (om_add false) (mv 4) me_int) (fun _ _ => rfl)) (ma_cons (mv 5) ma_nil))))
    (mss_cons (ms_if (mt_cmp om_is (mv 6) me_non (nomark _)) (mss_one (ms_raise x_NoText (by decide) rfl tk (hr.mono (by decide)) (by rfl) (by decide) (ma_cons (me_op (om_add false) (mv 4) me_int) ma_nil))) mss_nil)
    (mss_one (ms_set sc_read_paper.nd rfl (by first | exact .inl rfl | exact .inr rfl) (me_op (om_add false) (mv 2) (me_tup (ma_cons (mv 6) ma_nil)))))))))
    (mss_cons (ms_if (mt_cmp om_gt (me_callB cm_len T.b_len (by rfl) PySem.boot_len (ma_cons (mv 1) ma_nil)) (me_op (om_add false) me_int (me_callB cm_len T.b_len (by rfl) PySem.boot_len (ma_cons (mv 3) ma_nil))) (nomark _)) (mss_one (ms_raise x_NoText (by decide) rfl tk (hr.mono (by decide)) (by rfl) (by decide) (ma_cons (me_op (om_add false) me_int (me_callB cm_len T.b_len (by rfl) PySem.boot_len (ma_cons (mv 3) ma_nil))) ma_nil))) mss_nil)
    (mss_one (ms_ret (mv 2))))))))))
theorem ok__law_flow (T : Tx K mg) {f : Addr} {fd : FuncData} (F : Fun K "_law_flow" "_law_flow" st__law_flow f fd) : FnOk P w K mg base CX0 1 f fd ["_law_script"] (sp0 K mg m__law_flow) :=
  fn_ok0 F sc__law_flow fun cdv A outer s H E hr =>
    (mss_one (ms_ret (me_lst true (ma_cons (me_callTy (cm_list false) T.b_list (by rfl) boot_list (ma_cons (mv 0) ma_nil)) (ma_cons me_int (ma_cons me_int (ma_cons me_int (ma_cons me_int ma_nil))))))))
theorem ok__law_pick (T : Tx K mg) {f : Addr} {fd : FuncData} (F : Fun K "_law_pick" "_law_pick" st__law_pick f fd) : FnOk P w K mg base CX0 1 f fd ["_law_flow_here", "_law_many"] (sp0 K mg m__law_pick) :=
  fn_ok0 F sc__law_pick fun cdv A outer s H E hr =>
    (mss_cons (ms_if (mw_and (mt_cmp (om_eq hr.units) (me_ix im_ix (mv 0) me_int (fun _ _ => rfl)) me_int (nomark _)) (mw_and1 (mt_cmp om_lt (me_ix im_ix (mv 0) me_int (fun _ _ => rfl)) (me_callB cm_len T.b_len (by rfl) PySem.boot_len (ma_cons (me_ix im_ix (mv 0) me_int (fun _ _ => rfl)) ma_nil)) (nomark _)))).pt (mss_cons (ms_set sc__law_pick.nd rfl (by first | exact .inl rfl | exact .inr rfl) (me_ix im_ix (me_ix im_ix (mv 0) me_int (fun _ _ => rfl)) (me_ix im_ix (mv 0) me_int (fun _ _ => rfl)) (fun _ _ => rfl)))
    (mss_cons (ms_asg (vs := []) (me_op (om_add false) (me_ix im_ix (mv 0) me_int (fun _ _ => rfl)) me_int) (mg_sub (mv 0) me_int))
    (mss_one (ms_if (mt_cmp om_ge (mv 2) (me_op om_pow me_int me_int) (nomark _)) (mss_one (ms_asg (vs := []) (mv 2) (mg_sub (mv 0) me_int))) (mss_one (ms_asg (vs := []) (me_op om_mod (me_op (om_add false) (me_op (om_add false) (me_op om_mul (me_ix im_ix (mv 0) me_int (fun _ _ => rfl)) me_int) (me_op om_mod (mv 2) me_int)) me_int) me_int) (mg_sub (mv 0) me_int))))))) mss_nil)
    (mss_cons (ms_if (mt_cmp om_gt (me_ix im_ix (mv 0) me_int (fun _ _ => rfl)) me_int (nomark _)) (mss_cons (ms_set sc__law_pick.nd rfl (by first | exact .inl rfl | exact .inr rfl) (me_op om_mod (me_ix im_ix (mv 0) me_int (fun _ _ => rfl)) (mv 1)))
    (mss_cons (ms_asg (vs := []) (me_op om_fdiv (me_ix im_ix (mv 0) me_int (fun _ _ => rfl)) (mv 1)) (mg_sub (mv 0) me_int))
    (mss_one (ms_ret (mv 3))))) mss_nil)
    (mss_cons (ms_asg (vs := []) (me_op (om_add false) (me_ix im_ix (mv 0) me_int (fun _ _ => rfl)) me_int) (mg_sub (mv 0) me_int))
    (mss_cons (ms_asg (vs := []) (me_op om_mod (me_op (om_add false) (me_op (om_add false) (me_op om_mul (me_ix im_ix (mv 0) me_int (fun _ _ => rfl)) me_int) me_int) (me_ix im_ix (mv 0) me_int (fun _ _ => rfl))) me_int) (mg_sub (mv 0) me_int))
    (mss_one (ms_ret (me_op om_mod (me_op om_fdiv (me_op om_mod (me_op om_mul (me_op (om_add false) (me_op om_mod (me_ix im_ix (mv 0) me_int (fun _ _ => rfl)) me_int) me_int) (me_op (om_add false) (me_op om_fdiv (me_ix im_ix (mv 0) me_int (fun _ _ => rfl)) me_int) me_int)) me_int) me_int) (mv 1))))))))
theorem ok__law_word (T : Tx K mg) (h__law_pick : FnD P w K mg base 1 "_law_pick" ["_law_flow_here", "_law_many"] m__law_pick) {f : Addr} {fd : FuncData} (F : Fun K "_law_word" "_law_word" st__law_word f fd) : FnOk P w K mg base CX0 2 f fd ["_law_flow_here"] (sp0 K mg m__law_word) :=
  fn_ok0 F sc__law_word fun cdv A outer s H E hr =>
    (mss_cons (ms_set sc__law_word.nd rfl (by first | exact .inl rfl | exact .inr rfl) me_str)
    (mss_cons (ms_set sc__law_word.nd rfl (by first | exact .inl rfl | exact .inr rfl) (me_bm PySem.F.plainAttrs_str PySem.F.slot_str_join PySem.F.type_str_join mm_join me_str (ma_cons (me_lc false [("_law_k", 3)] rfl sc__law_word.nd (mi_rng1 T.b_range (by rfl) (me_op (om_add false) me_int (me_call h__law_pick (hr.mono (by decide)) (by rfl) (ma_cons (mv 0) (ma_cons me_int ma_nil))))) (blkOk_by (by kernel_rfl)) (fun _ _ _ _ _ => (mg_name (by decide) sc__law_word.nd rfl (by first | exact .inl rfl | exact .inr rfl))) (fun _ _ _ _ _ => mts_nil) (fun _ _ _ _ _ => (me_ix im_ix (mv 1) (me_call h__law_pick (hr.mono (by decide)) (by rfl) (ma_cons (mv 0) (ma_cons me_int ma_nil))) (fun _ _ => rfl)))) ma_nil)))
    (mss_cons (ms_if (mt_cmp (om_in (hu1 hr)) (mv 2) (me_tup (ma_cons me_str (ma_cons me_str (ma_cons me_str (ma_cons me_str (ma_cons me_str ma_nil)))))) rfl) (mss_one (ms_set sc__law_word.nd rfl (by first | exact .inl rfl | exact .inr rfl) (me_op (om_add false) (me_sl (sm_sl false) (mv 2) mo_none (mo_some (me_un um_neg me_int))) me_str))) mss_nil)
    (mss_one (ms_ret (mv 2))))))
theorem ok0__law_alike {f : Addr} {fd : FuncData} (F : Fun K "_law_alike" "_law_alike" st__law_alike f fd) : FnOk P w K mg base CX0 1 f fd ["_law_found", "_law_due"] (sp0 K mg (m__law_alike 0)) := fn_ok0 F sc__law_alike fun cdv A outer s H E hr => mss_stk
theorem ok__law_alike (T : Tx K mg) {n : Nat} (h__law_alike : FnD P w K mg base (1 + n) "_law_alike" ["_law_found", "_law_due"] (m__law_alike n)) {f : Addr} {fd : FuncData} (F : Fun K "_law_alike" "_law_alike" st__law_alike f fd) : FnOk P w K mg base CX0 (1 + n + 1) f fd ["_law_found", "_law_due"] (sp0 K mg (m__law_alike (n + 1))) :=
  fn_ok0 F sc__law_alike fun cdv A outer s H E hr =>
    (mss_cons (ms_if (mt_tru (me_isiT2 "list" "tuple" T.b_isinstance T.b_list T.b_tuple (by rfl) (by rfl) (by rfl) boot_list boot_tuple (mv 1))) (mss_cons (ms_if (mw_or (mt_cmp (om_ne hr.units) (me_isi "list" T.b_isinstance T.b_list (by rfl) (by rfl) boot_list (mv 0)) (me_isi "list" T.b_isinstance T.b_list (by rfl) (by rfl) boot_list (mv 1)) (nomark _)) (mw_or1 (mt_cmp (om_ne hr.units) (me_isi "tuple" T.b_isinstance T.b_tuple (by rfl) (by rfl) boot_tuple (mv 0)) (me_isi "tuple" T.b_isinstance T.b_tuple (by rfl) (by rfl) boot_tuple (mv 1)) (nomark _)))).pt (mss_one (ms_ret me_bl)) mss_nil)
    (mss_cons (ms_if (mt_cmp (om_ne hr.units) (me_callB cm_len T.b_len (by rfl) PySem.boot_len (ma_cons (mv 0) ma_nil)) (me_callB cm_len T.b_len (by rfl) PySem.boot_len (ma_cons (mv 1) ma_nil)) (nomark _)) (mss_one (ms_ret me_bl)) mss_nil)
    (mss_one (ms_ret (me_callB (cm_all rfl) T.b_all (by rfl) boot_all (ma_cons (me_lc false [("_law_one", 2), ("_law_other", 3)] rfl sc__law_alike.nd (mi_zip T.b_zip (by rfl) (mv 0) (mv 1)) (blkOk_by (by kernel_rfl)) (fun _ _ _ _ _ => (mg_tupW rfl (mgs_cons (mg_name (by decide) sc__law_alike.nd rfl (by first | exact .inl rfl | exact .inr rfl)) (mgs_cons (mg_name (by decide) sc__law_alike.nd rfl (by first | exact .inl rfl | exact .inr rfl)) mgs_nil)))) (fun _ _ _ _ _ => mts_nil) (fun _ _ _ _ _ => (me_call h__law_alike (hr.mono (by omega)) (by rfl) (ma_cons (mv 2) (ma_cons (mv 3) ma_nil))))) ma_nil)))))) mss_nil)
    (mss_cons (ms_if (mw_or (mt_tru (me_isi "str" T.b_isinstance T.b_str (by rfl) (by rfl) boot_str (mv 1))) (mw_or1 (mt_cmp om_is (mv 1) me_non (nomark _)))).pt (mss_one (ms_ret (me_and (me_cmp (om_eq hr.units) (me_isi "str" T.b_isinstance T.b_str (by rfl) (by rfl) boot_str (mv 0)) (me_isi "str" T.b_isinstance T.b_str (by rfl) (by rfl) boot_str (mv 1)) (nomark _)) (pe_one (me_cmp (om_eq hr.units) (mv 0) (mv 1) (nomark _)))))) mss_nil)
    (mss_one (ms_ret (me_and (me_isi "int" T.b_isinstance T.b_int (by rfl) (by rfl) boot_int (mv 0)) (me_and (me_cmp (om_eq hr.units) (me_isi "bool" T.b_isinstance T.b_bool (by rfl) (by rfl) boot_bool (mv 0)) (me_isi "bool" T.b_isinstance T.b_bool (by rfl) (by rfl) boot_bool (mv 1)) (nomark _)) (pe_one (me_cmp (om_eq hr.units) (mv 0) (mv 1) (nomark _)))))))))
theorem ok__law_common (T : Tx K mg) {f : Addr} {fd : FuncData} (F : Fun K "_law_common" "_law_common" st__law_common f fd) : FnOk P w K mg base CX0 1 f fd ["_law_one", "_law_other"] (sp0 K mg m__law_common) :=
  fn_ok0 F sc__law_common fun cdv A outer s H E hr =>
    (mss_cons (ms_par rfl sc__law_common.nd rfl rfl (by decide) rfl rfl (ma_cons (me_callB cm_abs T.b_abs (by rfl) boot_abs (ma_cons (mv 0) ma_nil)) (ma_cons (me_callB cm_abs T.b_abs (by rfl) boot_abs (ma_cons (mv 1) ma_nil)) ma_nil)))
    (mss_cons (ms_while PassesOwn.never (mt_cmp om_gt (mv 1) me_int (nomark _)) (mss_one (ms_par rfl sc__law_common.nd rfl rfl (by decide) rfl rfl (ma_cons (mv 1) (ma_cons (me_op om_mod (mv 0) (mv 1)) ma_nil)))))
    (mss_one (ms_ret (mv 0)))))
theorem ok__law_great_fraction (T : Tx K mg) (h__law_common : FnD P w K mg base 1 "_law_common" ["_law_one", "_law_other"] m__law_common) (h__law_pick : FnD P w K mg base 1 "_law_pick" ["_law_flow_here", "_law_many"] m__law_pick) {f : Addr} {fd : FuncData} (F : Fun K "_law_great_fraction" "_law_great_fraction" st__law_great_fraction f fd) : FnOk P w K mg base CX0 2 f fd ["_law_flow_here"] (sp0 K mg m__law_great_fraction) :=
  fn_ok0 F sc__law_great_fraction fun cdv A outer s H E hr =>
    (mss_cons (ms_set sc__law_great_fraction.nd rfl (by first | exact .inl rfl | exact .inr rfl) (me_call h__law_pick (hr.mono (by decide)) (by rfl) (ma_cons (mv 0) (ma_cons me_int ma_nil))))
    (mss_cons (ms_set sc__law_great_fraction.nd rfl (by first | exact .inl rfl | exact .inr rfl) (me_lst false (ma_cons me_int (ma_cons me_int (ma_cons (me_op om_pow me_int me_int) (ma_cons (me_op om_pow me_int me_int) ma_nil))))))
    (mss_cons (ms_set sc__law_great_fraction.nd rfl (by first | exact .inl rfl | exact .inr rfl) (me_op om_mul (me_call h__law_pick (hr.mono (by decide)) (by rfl) (ma_cons (mv 0) (ma_cons (me_ix im_ix (mv 2) (me_call h__law_pick (hr.mono (by decide)) (by rfl) (ma_cons (mv 0) (ma_cons me_int ma_nil))) (fun _ _ => rfl)) ma_nil))) (me_op om_sub me_int (me_op om_mul me_int (me_call h__law_pick (hr.mono (by decide)) (by rfl) (ma_cons (mv 0) (ma_cons me_int ma_nil)))))))
    (mss_cons (ms_if (mt_cmp om_lt (mv 1) me_int (nomark _)) (mss_one (ms_ret (me_tup (ma_cons (me_op om_mul (mv 3) (mv 1)) (ma_cons me_int ma_nil))))) mss_nil)
    (mss_cons (ms_set sc__law_great_fraction.nd rfl (by first | exact .inl rfl | exact .inr rfl) (me_op (om_add false) me_int (me_call h__law_pick (hr.mono (by decide)) (by rfl) (ma_cons (mv 0) (ma_cons (me_op om_sub (me_ix im_ix (mv 2) (me_call h__law_pick (hr.mono (by decide)) (by rfl) (ma_cons (mv 0) (ma_cons me_int ma_nil))) (fun _ _ => rfl)) me_int) ma_nil)))))
    (mss_cons (ms_set sc__law_great_fraction.nd rfl (by first | exact .inl rfl | exact .inr rfl) (me_callB (cm_max2 rfl) T.b_max (by rfl) boot_max (ma_cons me_int (ma_cons (me_call h__law_common (hr.mono (by decide)) (by rfl) (ma_cons (mv 3) (ma_cons (mv 4) ma_nil))) ma_nil))))
    (mss_one (ms_ret (me_tup (ma_cons (me_op om_fdiv (mv 3) (mv 5)) (ma_cons (me_op om_fdiv (mv 4) (mv 5)) ma_nil)))))))))))
theorem ok__law_paper (T : Tx K mg) (h__law_great_fraction : FnD P w K mg base 2 "_law_great_fraction" ["_law_flow_here"] m__law_great_fraction) (h__law_pick : FnD P w K mg base 1 "_law_pick" ["_law_flow_here", "_law_many"] m__law_pick) (h__law_word : FnD P w K mg base 2 "_law_word" ["_law_flow_here"] m__law_word) {f : Addr} {fd : FuncData} (F : Fun K "_law_paper" "_law_paper" st__law_paper f fd) : FnOk P w K mg base CX0 3 f fd ["_law_flow_here"] (sp0 K mg m__law_paper) :=
  fn_ok0 F sc__law_paper fun cdv A outer s H E hr =>
    (mss_cons (ms_set sc__law_paper.nd rfl (by first | exact .inl rfl | exact .inr rfl) (me_ix im_ix (me_lst false (ma_cons (me_call h__law_pick (hr.mono (by decide)) (by rfl) (ma_cons (mv 0) (ma_cons me_int ma_nil))) (ma_cons (me_call h__law_pick (hr.mono (by decide)) (by rfl) (ma_cons (mv 0) (ma_cons me_int ma_nil))) ma_nil))) (me_call h__law_pick (hr.mono (by decide)) (by rfl) (ma_cons (mv 0) (ma_cons me_int ma_nil))) (fun _ _ => rfl)))
    (mss_cons (ms_set sc__law_paper.nd rfl (by first | exact .inl rfl | exact .inr rfl) (me_call h__law_pick (hr.mono (by decide)) (by rfl) (ma_cons (mv 0) (ma_cons (me_ix im_ix (me_lst false (ma_cons me_int (ma_cons (me_op om_pow me_int me_int) ma_nil))) (me_call h__law_pick (hr.mono (by decide)) (by rfl) (ma_cons (mv 0) (ma_cons me_int ma_nil))) (fun _ _ => rfl)) ma_nil))))
    (mss_cons (ms_set sc__law_paper.nd rfl (by first | exact .inl rfl | exact .inr rfl) (me_callTy cm_tuple T.b_tuple (by rfl) boot_tuple (ma_cons (me_lc false [("_law_k", 5)] rfl sc__law_paper.nd (mi_rng1 T.b_range (by rfl) (mv 1)) (blkOk_by (by kernel_rfl)) (fun _ _ _ _ _ => (mg_name (by decide) sc__law_paper.nd rfl (by first | exact .inl rfl | exact .inr rfl))) (fun _ _ _ _ _ => mts_nil) (fun _ _ _ _ _ => (me_call h__law_great_fraction (hr.mono (by decide)) (by rfl) (ma_cons (mv 0) ma_nil)))) ma_nil)))
    (mss_cons (ms_if (mt_cmp (om_eq hr.units) (me_call h__law_pick (hr.mono (by decide)) (by rfl) (ma_cons (mv 0) (ma_cons me_int ma_nil))) me_int (nomark _)) (mss_one (ms_ret (me_tup (ma_cons me_str (ma_cons (mv 2) (ma_cons (me_call h__law_pick (hr.mono (by decide)) (by rfl) (ma_cons (mv 0) (ma_cons (me_ix im_ix (me_lst false (ma_cons me_int (ma_cons (me_op om_pow me_int me_int) ma_nil))) (me_call h__law_pick (hr.mono (by decide)) (by rfl) (ma_cons (mv 0) (ma_cons me_int ma_nil))) (fun _ _ => rfl)) ma_nil))) (ma_cons (mv 3) ma_nil))))))) mss_nil)
    (mss_cons (ms_set sc__law_paper.nd rfl (by first | exact .inl rfl | exact .inr rfl) (me_callTy cm_tuple T.b_tuple (by rfl) boot_tuple (ma_cons (me_lc false [("_law_k", 5)] rfl sc__law_paper.nd (mi_rng1 T.b_range (by rfl) (me_call h__law_pick (hr.mono (by decide)) (by rfl) (ma_cons (mv 0) (ma_cons me_int ma_nil)))) (blkOk_by (by kernel_rfl)) (fun _ _ _ _ _ => (mg_name (by decide) sc__law_paper.nd rfl (by first | exact .inl rfl | exact .inr rfl))) (fun _ _ _ _ _ => mts_nil) (fun _ _ _ _ _ => (me_call h__law_great_fraction (hr.mono (by decide)) (by rfl) (ma_cons (mv 0) ma_nil)))) ma_nil)))
    (mss_one (ms_ret (me_tup (ma_cons me_str (ma_cons (mv 2) (ma_cons (me_call h__law_word (hr.mono (by decide)) (by rfl) (ma_cons (mv 0) ma_nil)) (ma_cons (mv 4) (ma_cons (mv 3) ma_nil)))))))))))))
theorem ok__law_paper_text (T : Tx K mg) (h__law_fraction_said : FnD P w K mg base 1 "_law_fraction_said" ["_law_one"] m__law_fraction_said) {f : Addr} {fd : FuncData} (F : Fun K "_law_paper_text" "_law_paper_text" st__law_paper_text f fd) : FnOk P w K mg base CX0 2 f fd ["_law_paper_here"] (sp0 K mg m__law_paper_text) :=
  fn_ok0 F sc__law_paper_text fun cdv A outer s H E hr =>
    (mss_cons (ms_set sc__law_paper_text.nd rfl (by first | exact .inl rfl | exact .inr rfl) (me_lst true (ma_cons (me_bm PySem.F.plainAttrs_str PySem.F.slot_str_join PySem.F.type_str_join mm_join me_str (ma_cons (me_lst false (ma_cons (me_ix im_ix (mv 0) me_int (fun _ _ => rfl)) (ma_cons (me_callTy cm_str T.b_str (by rfl) boot_str (ma_cons (me_ix im_ix (mv 0) me_int (fun _ _ => rfl)) ma_nil)) (ma_cons (me_callTy cm_strA T.b_str (by rfl) boot_str (ma_cons (me_ix im_ix (mv 0) me_int (fun _ _ => rfl)) ma_nil)) ma_nil)))) ma_nil)) ma_nil)))
    (mss_cons (ms_for (vs := [2, 3]) PassesOwn.never rfl (mi_it (me_sl (sm_sl false) (me_listZip (al := false) rfl T.b_list (by rfl) T.b_zip (by rfl) (me_lst false (ma_cons me_str (ma_cons me_str ma_nil))) (me_sl (sm_sl false) (mv 0) (mo_some me_int) mo_none)) mo_none (mo_some (me_op om_mul (me_callB cm_len T.b_len (by rfl) PySem.boot_len (ma_cons (me_sl (sm_sl false) (mv 0) (mo_some me_int) mo_none) ma_nil)) me_int)))) (mg_tup rfl (mgs_cons (mg_name (by decide) sc__law_paper_text.nd rfl (by first | exact .inl rfl | exact .inr rfl)) (mgs_cons (mg_name (by decide) sc__law_paper_text.nd rfl (by first | exact .inl rfl | exact .inr rfl)) mgs_nil))) (mss_one (ms_expr (me_bm PySem.F.plainAttrs_list PySem.F.slot_list_append PySem.F.type_list_append mm_append (mv 1) (ma_cons (me_bm PySem.F.plainAttrs_str PySem.F.slot_str_join PySem.F.type_str_join mm_join me_str (ma_cons (me_op (om_add false) (me_lst false (ma_cons (mv 2) ma_nil)) (me_lc false [("_law_one", 4)] rfl sc__law_paper_text.nd (mi_it (mv 3)) (blkOk_by (by kernel_rfl)) (fun _ _ _ _ _ => (mg_name (by decide) sc__law_paper_text.nd rfl (by first | exact .inl rfl | exact .inr rfl))) (fun _ _ _ _ _ => mts_nil) (fun _ _ _ _ _ => (me_call h__law_fraction_said (hr.mono (by decide)) (by rfl) (ma_cons (mv 4) ma_nil))))) ma_nil)) ma_nil)))))
    (mss_cons (ms_if (mt_cmp (om_eq hr.units) (me_ix im_ix (mv 0) me_int (fun _ _ => rfl)) me_str (nomark _)) (mss_one (ms_expr (me_bm PySem.F.plainAttrs_list PySem.F.slot_list_append PySem.F.type_list_append mm_append (mv 1) (ma_cons (me_bm PySem.F.plainAttrs_str PySem.F.slot_str_join PySem.F.type_str_join mm_join me_str (ma_cons (me_op (om_add false) (me_lst false (ma_cons me_str ma_nil)) (me_lc false [("_law_one", 4)] rfl sc__law_paper_text.nd (mi_it (me_ix im_ix (mv 0) me_int (fun _ _ => rfl))) (blkOk_by (by kernel_rfl)) (fun _ _ _ _ _ => (mg_name (by decide) sc__law_paper_text.nd rfl (by first | exact .inl rfl | exact .inr rfl))) (fun _ _ _ _ _ => mts_nil) (fun _ _ _ _ _ => (me_call h__law_fraction_said (hr.mono (by decide)) (by rfl) (ma_cons (mv 4) ma_nil))))) ma_nil)) ma_nil)))) mss_nil)
    (mss_one (ms_ret (me_bm PySem.F.plainAttrs_str PySem.F.slot_str_join PySem.F.type_str_join mm_join me_str (ma_cons (mv 1) ma_nil)))))))
theorem ok__law_fraction_said (T : Tx K mg) {f : Addr} {fd : FuncData} (F : Fun K "_law_fraction_said" "_law_fraction_said" st__law_fraction_said f fd) : FnOk P w K mg base CX0 1 f fd ["_law_one"] (sp0 K mg m__law_fraction_said) :=
  fn_ok0 F sc__law_fraction_said fun cdv A outer s H E hr =>
    (mss_cons (ms_if (mt_cmp (om_eq hr.units) (me_ix im_ix (mv 0) me_int (fun _ _ => rfl)) me_int (nomark _)) (mss_one (ms_ret (me_callTy cm_str T.b_str (by rfl) boot_str (ma_cons (me_ix im_ix (mv 0) me_int (fun _ _ => rfl)) ma_nil)))) mss_nil)
    (mss_one (ms_ret (me_op (om_add false) (me_op (om_add false) (me_callTy cm_str T.b_str (by rfl) boot_str (ma_cons (me_ix im_ix (mv 0) me_int (fun _ _ => rfl)) ma_nil)) me_str) (me_callTy cm_str T.b_str (by rfl) boot_str (ma_cons (me_ix im_ix (mv 0) me_int (fun _ _ => rfl)) ma_nil))))))
theorem ok__law_is_written_alone (T : Tx K mg) (h__law_alike : FnD P w K mg base 13 "_law_alike" ["_law_found", "_law_due"] (m__law_alike 12)) (h__law_paper_text : FnD P w K mg base 2 "_law_paper_text" ["_law_paper_here"] m__law_paper_text) (h__law_pick : FnD P w K mg base 1 "_law_pick" ["_law_flow_here", "_law_many"] m__law_pick) (h_paper_text : FnD P w K mg base 3 "paper_text" ["paper"] Mir.N.m_paper_text) (h_read_paper : FnX P w K mg base 5 "read_paper" ["text"] Mir.N.m_read_paper) {f : Addr} {fd : FuncData} (F : Fun K "_law_is_written_alone" "_law_is_written_alone" st__law_is_written_alone f fd) : FnOk P w K mg base CX0 14 f fd ["_law_flow_here", "_law_paper_here"] (sp0 K mg m__law_is_written_alone) :=
  fn_ok0 F sc__law_is_written_alone fun cdv A outer s H E hr =>
    (mss_cons (ms_set sc__law_is_written_alone.nd rfl (by first | exact .inl rfl | exact .inr rfl) (me_op (om_add false) (me_tup (ma_cons (me_ix im_ix (mv 1) me_int (fun _ _ => rfl)) (ma_cons (me_op (om_add false) (me_op om_pow me_int me_int) (me_call h__law_pick (hr.mono (by decide)) (by rfl) (ma_cons (mv 0) (ma_cons (me_op om_pow me_int me_int) ma_nil)))) ma_nil))) (me_sl (sm_sl false) (mv 1) (mo_some me_int) mo_none)))
    (mss_cons (ms_set sc__law_is_written_alone.nd rfl (by first | exact .inl rfl | exact .inr rfl) (me_call h__law_paper_text (hr.mono (by decide)) (by rfl) (ma_cons (mv 2) ma_nil)))
    (mss_cons (ms_if (mt_not (mt_tru (me_call h__law_alike (hr.mono (by decide)) (by rfl) (ma_cons (me_call h_paper_text (hr.mono (by decide)) (by rfl) (ma_cons (mv 2) ma_nil)) (ma_cons (mv 3) ma_nil))))) (mss_one (ms_ret me_bl)) mss_nil)
    (mss_cons (ms_set sc__law_is_written_alone.nd rfl (by first | exact .inl rfl | exact .inr rfl) (me_op om_sub me_int me_int))
    (mss_cons (ms_try rfl rfl rfl sc__law_is_written_alone.nd rfl takes0 (fun _ _ _ tk po => (mss_one (ms_expr (me_callX h_read_paper tk (hr.mono (by decide)) (by rfl) (ma_cons (mv 3) ma_nil))))) (HdsM.cons (i := 5) (by rfl) (by decide) (.inl (T.c_NoText).choose_spec) (by rfl) (by rfl) (tblE_cons T.ex_NoText_NoText tblE_nil) (fun _ _ => (mss_one (ms_set sc__law_is_written_alone.nd rfl (by first | exact .inl rfl | exact .inr rfl) (me_xf T.fld_row (mv 5))))) HdsM.nil))
    (mss_one (ms_ret (me_call h__law_alike (hr.mono (by decide)) (by rfl) (ma_cons (mv 4) (ma_cons me_int ma_nil))))))))))
theorem ok_law (T : Tx K mg) (h__law_alike : FnD P w K mg base 13 "_law_alike" ["_law_found", "_law_due"] (m__law_alike 12)) (h__law_flow : FnD P w K mg base 1 "_law_flow" ["_law_script"] m__law_flow) (h__law_is_written_alone : FnD P w K mg base 14 "_law_is_written_alone" ["_law_flow_here", "_law_paper_here"] m__law_is_written_alone) (h__law_paper : FnD P w K mg base 3 "_law_paper" ["_law_flow_here"] m__law_paper) (h__law_paper_text : FnD P w K mg base 2 "_law_paper_text" ["_law_paper_here"] m__law_paper_text) (h__law_pick : FnD P w K mg base 1 "_law_pick" ["_law_flow_here", "_law_many"] m__law_pick) (h_paper_text : FnD P w K mg base 3 "paper_text" ["paper"] Mir.N.m_paper_text) (h_read_paper : FnX P w K mg base 5 "read_paper" ["text"] Mir.N.m_read_paper) {f : Addr} {fd : FuncData} (F : Fun K "law" "law" st_law f fd) : FnOk P w K mg base CX0 15 f fd ["_law_script"] (sp0 K mg m_law) :=
  fn_ok0 F sc_law fun cdv A outer s H E hr =>
    (mss_cons (ms_set sc_law.nd rfl (by first | exact .inl rfl | exact .inr rfl) (me_call h__law_flow (hr.mono (by decide)) (by rfl) (ma_cons (mv 0) ma_nil)))
    (mss_cons (ms_setLc true [("_law_turn", 6)] rfl sc_law.nd rfl rfl (sw_true rfl rfl rfl (by decide +kernel)) (mi_rng1 T.b_range (by rfl) me_int) (blkOk_by (by kernel_rfl)) (fun _ _ _ _ _ => (mg_name (by decide) sc_law.nd rfl (by first | exact .inl rfl | exact .inr rfl))) (fun _ _ _ _ _ => mts_nil) (fun _ _ _ _ _ => (me_call h__law_paper (hr.mono (by decide)) (by rfl) (ma_cons (mv 1) ma_nil))))
    (mss_cons (ms_if (mt_cmp (om_eq hr.units) (me_call h__law_pick (hr.mono (by decide)) (by rfl) (ma_cons (mv 1) (ma_cons me_int ma_nil))) me_int (nomark _)) (mss_cons (ms_setLc false [("_law_k", 7)] rfl sc_law.nd rfl rfl (sw_true rfl rfl rfl (by decide +kernel)) (mi_rng1 T.b_range (by rfl) (me_op (om_add false) me_int (me_call h__law_pick (hr.mono (by decide)) (by rfl) (ma_cons (mv 1) (ma_cons (me_ix im_ix (me_lst false (ma_cons me_int (ma_cons me_int ma_nil))) (me_call h__law_pick (hr.mono (by decide)) (by rfl) (ma_cons (mv 1) (ma_cons me_int ma_nil))) (fun _ _ => rfl)) ma_nil))))) (blkOk_by (by kernel_rfl)) (fun _ _ _ _ _ => (mg_name (by decide) sc_law.nd rfl (by first | exact .inl rfl | exact .inr rfl))) (fun _ _ _ _ _ => mts_nil) (fun _ _ _ _ _ => (me_tup (ma_cons (me_op om_sub (me_call h__law_pick (hr.mono (by decide)) (by rfl) (ma_cons (mv 1) (ma_cons me_int ma_nil))) me_int) (ma_cons me_int ma_nil)))))
    (mss_one (ms_asg (vs := []) (me_op (om_add false) (me_sl (sm_sl false) (me_ix im_ix (mv 2) me_int (fun _ _ => rfl)) mo_none (mo_some (me_un um_neg me_int))) (me_tup (ma_cons (me_callTy cm_tuple T.b_tuple (by rfl) boot_tuple (ma_cons (mv 4) ma_nil)) ma_nil))) (mg_sub (mv 2) me_int)))) mss_nil)
    (mss_cons (ms_for (vs := [3]) PassesOwn.never rfl (mi_it (me_op (om_add false) (mv 2) (me_sl (sm_sl false) (mv 2) mo_none (mo_some me_int)))) (mg_name (by decide) sc_law.nd rfl (by first | exact .inl rfl | exact .inr rfl)) (mss_cons (ms_set sc_law.nd rfl (by first | exact .inl rfl | exact .inr rfl) (me_call h__law_paper_text (hr.mono (by decide)) (by rfl) (ma_cons (mv 3) ma_nil)))
    (mss_one (ms_if (mt_cmp om_le (me_callB cm_len T.b_len (by rfl) PySem.boot_len (ma_cons (mv 5) ma_nil)) me_int (nomark _)) (mss_cons (ms_if (mw_or (mt_not (mt_tru (me_call h__law_alike (hr.mono (by decide)) (by rfl) (ma_cons (me_call h_paper_text (hr.mono (by decide)) (by rfl) (ma_cons (mv 3) ma_nil)) (ma_cons (mv 5) ma_nil))))) (mw_or1 (mt_not (mt_tru (me_call h__law_alike (hr.mono (by decide)) (by rfl) (ma_cons (me_callX h_read_paper takes0 (hr.mono (by decide)) (by rfl) (ma_cons (mv 5) ma_nil)) (ma_cons (mv 3) ma_nil))))))).pt (mss_one (ms_ret me_bl)) mss_nil)
    (mss_one (ms_if (mt_not (mt_tru (me_call h__law_alike (hr.mono (by decide)) (by rfl) (ma_cons (me_call h_paper_text (hr.mono (by decide)) (by rfl) (ma_cons (me_callX h_read_paper takes0 (hr.mono (by decide)) (by rfl) (ma_cons (mv 5) ma_nil)) ma_nil)) (ma_cons (mv 5) ma_nil))))) (mss_one (ms_ret me_bl)) mss_nil))) mss_nil))))
    (mss_one (ms_ret (me_call h__law_is_written_alone (hr.mono (by decide)) (by rfl) (ma_cons (mv 1) (ma_cons (me_ix im_ix (mv 2) me_int (fun _ _ => rfl)) ma_nil)))))))))
end
end Lw

namespace Lw
open PySem PySem.Spec PyProof.Rows L2 Mir Mir.Y Mir.Pp
open Mir.Fr (qD QB)
open Mir.V (lineS wsD sp nl)
open Mir.N (nthS wrd numS bStr_num add_lst)
theorem qD_cop {a b : Int} (hb : 0 < b) (hg : Int.gcd a b = 1) : ∃ q : Rat, D.tup [.int a, .int b] = qD q ∧ q.num = a ∧ (q.den : Int) = b := by
  have hnum := Rat.num_divInt a b
  have hden := Rat.den_divInt a b
  rw [if_neg (by omega)] at hden
  rw [Int.gcd_comm, hg] at hnum hden
  rw [Int.sign_eq_one_of_pos hb] at hnum
  have h1 : (Rat.divInt a b).num = a := by rw [hnum]; simp
  have h2 : ((Rat.divInt a b).den : Int) = b := by rw [hden]; simp; omega
  exact ⟨Rat.divInt a b, by unfold qD; rw [h1, h2], h1, h2⟩
section
variable {m : Mem} {i : Nat} {P : D → Mem → Prop}
theorem log_of {n : Int} (h : n ≤ 10 ^ 30) (h0 : 0 < n) : n.natAbs.log2 < 9000 := by
  have e : (10 : Int) ^ 30 = ((10 ^ 30 : Nat) : Int) := by decide
  have h1 : n.natAbs ≤ 10 ^ 30 := by omega
  have h2 : n.natAbs < 2 ^ 100 := Nat.lt_of_le_of_lt h1 (by decide)
  exact Nat.lt_trans (Mir.Fr.log2_lt h2 (by decide)) (by decide)
theorem pick_big {n : Int} (hf : FlowAt m i) (hn : 0 < n) (hb : n ≤ 10 ^ 30) (h : ∀ (k : Nat) m', (k : Int) < n → Flo m m' i → P (.int (k : Nat)) m') : Tri (m__law_pick [.ref i, .int n] m) P :=
  (Mir.pick_spec hf hn (log_of hb hn)).mono fun d m' ⟨k, e, h0, h1, h2⟩ => by
    have := h k.toNat m' (by omega) (h2.flo hf)
    rw [Int.toNat_of_nonneg h0] at this
    rw [e]
    exact this
theorem one_q {u : Int} (h : u.natAbs < 10 ^ 30) : ∃ q : Rat, D.tup [.int u, .int 1] = qD q ∧ F30 q := by
  obtain ⟨q, e, h1, h2⟩ := qD_cop (a := u) (b := 1) (by decide) (by simp)
  exact ⟨q, e, by rw [h1]; exact h, by have : q.den = 1 := by omega
                                       rw [this]; decide⟩
theorem div_q {U L : Int} (hL0 : 0 < L) (hL1 : L.natAbs < 10 ^ 30) (hU : U.natAbs < 10 ^ 30) : ∃ q : Rat, D.tup [.int (U / ((Int.gcd U L : Nat) : Int)), .int (L / ((Int.gcd U L : Nat) : Int))] = qD q ∧ F30 q ∧ 0 < Int.gcd U L ∧ (Int.gcd U L : Nat) < 2 ^ 100 := by
  have hgp : 0 < Int.gcd U L := Int.gcd_pos_of_ne_zero_right U (by omega)
  have hgl : Int.gcd U L ≤ L.natAbs := Nat.le_of_dvd (by omega) (Int.gcd_dvd_natAbs_right U L)
  have hcop : Int.gcd (U / ((Int.gcd U L : Nat) : Int)) (L / ((Int.gcd U L : Nat) : Int)) = 1 := by
    rw [Int.gcd_ediv (Int.gcd_dvd_left ..) (Int.gcd_dvd_right ..), Int.natAbs_natCast]
    exact Nat.div_self hgp
  have hpos : 0 < L / ((Int.gcd U L : Nat) : Int) := Int.ediv_pos_of_pos_of_dvd hL0 (by omega) (Int.gcd_dvd_right ..)
  obtain ⟨q, hq, hn, hd⟩ := qD_cop hpos hcop
  refine ⟨q, hq, ⟨?_, ?_⟩, hgp, Nat.lt_of_le_of_lt hgl (Nat.lt_trans hL1 (by decide))⟩
  · rw [hn]
    exact Nat.lt_of_le_of_lt (by rw [Int.natAbs_ediv_of_dvd (Int.gcd_dvd_left ..)]; exact Nat.div_le_self _ _) hU
  · have : (q.den : Int).natAbs = (L / ((Int.gcd U L : Nat) : Int)).natAbs := by rw [hd]
    rw [Int.natAbs_natCast, Int.natAbs_ediv_of_dvd (Int.gcd_dvd_right ..)] at this
    rw [this]
    exact Nat.lt_of_le_of_lt (Nat.div_le_self _ _) hL1
theorem figs_ix {k : Nat} {m : Mem} (h : k < 4) : ∃ F : Int, 10 ≤ F ∧ F ≤ 10 ^ 30 ∧ gIx (.lst [.int 10, .int 1000, .int (10 ^ 12), .int (10 ^ 30)]) (.int (k : Nat)) m = .ok (.int F) m := by
  have : k = 0 ∨ k = 1 ∨ k = 2 ∨ k = 3 := by omega
  rcases this with rfl | rfl | rfl | rfl
  · exact ⟨10, by decide, by decide, rfl⟩
  · exact ⟨1000, by decide, by decide, rfl⟩
  · exact ⟨10 ^ 12, by decide, by decide, rfl⟩
  · exact ⟨10 ^ 30, by decide, by decide, rfl⟩
theorem mul_r (a : Int) (b : Int) (m : Mem) (h : b.natAbs < 2 ^ 64) : gMulI (.int a) (.int b) m = .ok (.int (a * b)) m := by
  show (if mulOk a b then _ else _) = _
  rw [if_pos (.inr (.inl h))]
theorem great_then (hf : FlowAt m i) (h : ∀ (q : Rat) m', F30 q → Flo m m' i → P (qD q) m') : Tri (m__law_great_fraction [.ref i] m) P := by
  refine tri_fn rfl ?_
  have e12 : ∀ m, gPow (.int 10) (.int 12) m = .ok (.int (10 ^ 12)) m := fun m => rfl
  have e30 : ∀ m, gPow (.int 10) (.int 30) m = .ok (.int (10 ^ 30)) m := fun m => rfl
  have h5 : 4 ≤ sizeLine := size_le (by decide)
  obtain ⟨B, hB⟩ : ∃ B : Int, B = 10 ^ 12 := ⟨_, rfl⟩
  obtain ⟨C, hC⟩ : ∃ C : Int, C = 10 ^ 30 := ⟨_, rfl⟩
  have fx := fun (k : Nat) (m : Mem) (h : k < 4) => @figs_ix k m h
  simp only [← hB, ← hC] at fx e12 e30
  simp [b__law_great_fraction]
  refine pick_then hf (by decide) (by decide) fun f m1 hf4 hfl1 => ?_
  simp [b__law_great_fraction_s1, e12, e30, h5, b__law_great_fraction_s2]
  refine pick_then hfl1.at (by decide) (by decide) fun a m2 ha hfl2 => ?_
  have hfl2 := hfl1.trans hfl2
  obtain ⟨F, F0, F1, hix⟩ := fx a m2 (by omega)
  simp [hix]
  refine pick_big hfl2.at (by omega) (by omega) fun u m3 hu hfl3 => ?_
  have hfl3 := hfl2.trans hfl3
  refine pick_then hfl3.at (by decide) (by decide) fun g m4 hg hfl4 => ?_
  have hfl4 := hfl3.trans hfl4
  have e1 := mul_r 2 g m4 (by omega)
  have e2 := mul_r u (1 - 2 * (g : Int)) m4 (by omega)
  obtain ⟨U, hU, hUe⟩ : ∃ U : Int, U.natAbs < 10 ^ 30 ∧ (u : Int) * (1 - 2 * (g : Int)) = U := by
    refine ⟨_, ?_, rfl⟩
    have e : (10 : Int) ^ 30 = ((10 ^ 30 : Nat) : Int) := by decide
    have : g = 0 ∨ g = 1 := by omega
    rcases this with rfl | rfl
    · simp; omega
    · have : (u : Int) * (1 - 2 * ((1 : Nat) : Int)) = -(u : Int) := by omega
      rw [this, Int.natAbs_neg, Int.natAbs_natCast]
      omega
  rw [hUe] at e2
  simp [e1, e2, b__law_great_fraction_s3]
  by_cases hf2 : (f : Int) < 2
  · rw [if_pos hf2]
    have e3 := mul_r U f m4 (by omega)
    obtain ⟨q, hq, hq2⟩ := one_q (u := U * (f : Int)) (by
      have : f = 0 ∨ f = 1 := by omega
      rcases this with rfl | rfl
      · simp
      · simpa using hU)
    simp [e3]
    rw [hq]
    exact h q m4 hq2 hfl4
  · rw [if_neg hf2]
    simp [b__law_great_fraction_s4]
    refine pick_then hfl4.at (by decide) (by decide) fun a2 m5 ha2 hfl5 => ?_
    have hfl5 := hfl4.trans hfl5
    obtain ⟨G, G0, G1, hix2⟩ := fx a2 m5 (by omega)
    simp [hix2]
    refine pick_big (n := G - 1) hfl5.at (by omega) (by omega) fun w m6 hw hfl6 => ?_
    have hfl6 := hfl5.trans hfl6
    have e : (10 : Int) ^ 30 = ((10 ^ 30 : Nat) : Int) := by decide
    obtain ⟨L, hLe⟩ : ∃ L : Int, L = 1 + (w : Int) := ⟨_, rfl⟩
    have hL0 : 0 < L := by omega
    have hL1 : L.natAbs < 10 ^ 30 := by omega
    obtain ⟨q, hq, hq2, hgp, hg100⟩ := div_q hL0 hL1 hU
    have b1 : L.natAbs < 2 ^ 8999 := Nat.lt_trans hL1 (Nat.lt_of_lt_of_le (show 10 ^ 30 < 2 ^ 100 by decide) (Nat.pow_le_pow_right (by decide) (by decide)))
    have hcm : m__law_common [.int U, .int L] m6 = .ok (.int ((Int.gcd U L : Nat) : Int)) m6 := law_common_eq b1
    have hdv : ∀ x m, gFdiv (.int x) (.int ((Int.gcd U L : Nat) : Int)) m = .ok (.int (x / ((Int.gcd U L : Nat) : Int))) m := fun x m => by
      rw [Mir.Fr.gFdiv_bd (by omega) (by rw [Int.natAbs_natCast]; exact Nat.lt_of_lt_of_le hg100 (Nat.pow_le_pow_right (by decide) (by decide))), fdiv_pos (by omega)]
    have mx : (if (1 : Int) < ((Int.gcd U L : Nat) : Int) then D.int ((Int.gcd U L : Nat) : Int) else D.int 1) = D.int ((Int.gcd U L : Nat) : Int) := by
      split
      · rfl
      · congr 1; omega
    have mx2 : (if (1 : Int) < ((Int.gcd U L : Nat) : Int) then ((Int.gcd U L : Nat) : Int) else 1) = ((Int.gcd U L : Nat) : Int) := by
      split
      · rfl
      · omega
    simp
    rw [← hLe]
    simp [b__law_great_fraction_s5, hcm, mx, mx2, b__law_great_fraction_s6, hdv]
    rw [hq]
    exact h q m6 hq2 hfl6
theorem row_then (n : Nat) {η : Env'} {j : Nat} (hn : n ≤ 1000) (hf : FlowAt m i) (h0 : ∀ d, (η.set j (some d))[0]? = some (some (.ref i))) (Q : List D → Mem → Prop) (hQ : ∀ (qs : List Rat) m', qs.length = n → (∀ q ∈ qs, F30 q) → Flo m m' i → Q (qs.map qD) m') :
    Tri (compD (gNm j) mYes (mCall m__law_great_fraction (mCons (mVar 0) mNil)) η (rngD 0 n) m []) Q := by
  refine (comp_draw qD F30 hf (by unfold rngD; simp; omega) ?_).mono ?_
  · intro d m' hd hfl
    simp [h0]
    exact great_then hfl.at fun q m2 hq hfl2 => ⟨q, rfl, hq, hfl.trans hfl2⟩
  · rintro _ m2 ⟨qs, rfl, hl, hq, hfl⟩
    exact hQ qs m2 (by rw [hl]; unfold rngD; simp) hq hfl
def Short : Ppr → Prop
  | .alike _ _ gs => gs.length ≤ 30
  | .open' _ _ us gs => us.length ≤ 30 ∧ gs.length ≤ 30
/-- any paper -/
theorem paper_then (hf : FlowAt m i) (h : ∀ (p : Ppr) m', OkP (10 ^ 9) p → Short p → Flo m m' i → P (pprD p) m') : Tri (m__law_paper [.ref i] m) P := by
  refine tri_fn rfl ?_
  have e9 : ∀ m, gPow (.int 10) (.int 9) m = .ok (.int (10 ^ 9)) m := fun m => rfl
  have h2 : 2 ≤ sizeLine := size_le (by decide)
  obtain ⟨B, hB⟩ : ∃ B : Int, B = 10 ^ 9 := ⟨_, rfl⟩
  have hB9 : B = 1000000000 := by rw [hB]; decide
  have e30 : (10 : Int) ^ 30 = 1000000000000000000000000000000 := by decide
  have gi : ∀ (a b : Int) (k : Nat) (m : Mem), k < 2 → ∃ c, (c = a ∨ c = b) ∧ gIx (.lst [.int a, .int b]) (.int (k : Nat)) m = .ok (.int c) m := fun a b k m hk => by
    have : k = 0 ∨ k = 1 := by omega
    rcases this with rfl | rfl
    · exact ⟨a, .inl rfl, rfl⟩
    · exact ⟨b, .inr rfl, rfl⟩
  simp only [← hB] at e9
  simp [b__law_paper]
  refine pick_then hf (by decide) (by decide) fun n1 m1 h1 hfl1 => ?_
  refine pick_then hfl1.at (by decide) (by decide) fun n2 m2 hn2 hfl2 => ?_
  have hfl2 := hfl1.trans hfl2
  refine pick_then hfl2.at (by decide) (by decide) fun n3 m3 hn3 hfl3 => ?_
  have hfl3 := hfl2.trans hfl3
  obtain ⟨c, hc, ec⟩ := gi n1 n2 n3 m3 (by omega)
  obtain ⟨n, hn, rfl⟩ : ∃ n : Nat, n ≤ 16 ∧ c = (n : Int) := ⟨c.toNat, by omega, by omega⟩
  simp [h2, ec, b__law_paper_s1, e9]
  refine pick_then hfl3.at (by decide) (by decide) fun n4 m4 hn4 hfl4 => ?_
  have hfl4 := hfl3.trans hfl4
  obtain ⟨c, hc, ec⟩ := gi 9 B n4 m4 (by omega)
  simp [ec]
  refine pick_big (n := c) hfl4.at (by omega) (by omega) fun a m5 ha hfl5 => ?_
  have hfl5 := hfl4.trans hfl5
  have oa : 0 ≤ (a : Int) ∧ (a : Int) < 10 ^ 9 := ⟨by omega, by rw [← hB]; omega⟩
  simp [b__law_paper_s2, -rng1R_int]
  rw [rng_nat (by omega)]
  simp
  refine row_then n (by omega) hfl5.at (fun _ => rfl) _ fun gs m6 hgl hgs hfl6 => ?_
  have hfl6 := hfl5.trans hfl6
  simp [b__law_paper_s3]
  refine pick_then hfl6.at (by decide) (by decide) fun n7 m7 hn7 hfl7 => ?_
  have hfl7 := hfl6.trans hfl7
  simp
  by_cases hz : n7 = 0
  · rw [if_pos hz]
    simp only [h2, e9, if_true, tri_ok]
    refine pick_then hfl7.at (by decide) (by decide) fun n8 m8 hn8 hfl8 => ?_
    have hfl8 := hfl7.trans hfl8
    obtain ⟨c, hc, ec⟩ := gi 9 B n8 m8 (by omega)
    simp [ec]
    refine pick_big (n := c) hfl8.at (by omega) (by omega) fun b m9 hb hfl9 => ?_
    have hfl9 := hfl8.trans hfl9
    have ob : 0 ≤ (b : Int) ∧ (b : Int) < 10 ^ 9 := ⟨by omega, by rw [← hB]; omega⟩
    have h4 : 4 ≤ sizeLine := size_le (by decide)
    exact h (.alike a b gs) m9 ⟨oa, ob, by omega, hgs⟩ (show gs.length ≤ 30 by omega) hfl9
  · rw [if_neg hz]
    simp [b__law_paper_s4, -rng1R_int]
    refine pick_then hfl7.at (by decide) (by decide) fun n8 m8 hn8 hfl8 => ?_
    have hfl8 := hfl7.trans hfl8
    rw [rng_nat (by omega)]
    simp
    refine row_then n8 (by omega) hfl8.at (fun _ => rfl) _ fun us m9 hul hus hfl9 => ?_
    have hfl9 := hfl8.trans hfl9
    simp [b__law_paper_s5]
    refine word_then hfl9.at fun x m10 hx hfl10 => ?_
    have hfl10 := hfl9.trans hfl10
    have h4 : 5 ≤ sizeLine := size_le (by decide)
    exact h (.open' a x us gs) m10 ⟨oa, hx, ⟨by omega, hus⟩, by omega, hgs⟩ ⟨by omega, by omega⟩ hfl10
/-! ### the law's own texts -/
theorem said_eq {q : Rat} {m : Mem} (h : F30 q) : m__law_fraction_said [qD q] m = .ok (.str (txS q)) m := by
  have key : Tri (m__law_fraction_said [qD q] m) (fun r m' => r = .str (txS q) ∧ m' = m) := by
    refine tri_fn rfl ?_
    have l1 := inL_len h.n
    have l2 := inL_len (i := (q.den : Int)) h.dn
    unfold txS
    by_cases hd : q.den = 1
    · simp [b__law_fraction_said, Mir.Fr.gIx_q0, Mir.Fr.gIx_q1, hd, bStr_S h.n, tx]
    · have hd' : ¬ (q.den : Int) = 1 := by omega
      have a1 : ∀ m, gAdd false (.str (SX.S (inL q.num))) (.str (Str.ofString "/")) m = .ok (.str (SX.S (inL q.num ++ [47]))) m := fun m => by
        rw [slash_S, gAdd_str (by rw [SX.S_len, SX.S_len]; simp; omega), S_append]
      have a2 : ∀ m, gAdd false (.str (SX.S (inL q.num ++ [47]))) (.str (SX.S (inL q.den))) m = .ok (.str (SX.S (inL q.num ++ [47] ++ inL q.den))) m := fun m => by
        rw [gAdd_str (by rw [SX.S_len, SX.S_len]; simp; omega), S_append]
      simp [b__law_fraction_said, Mir.Fr.gIx_q0, Mir.Fr.gIx_q1, hd', b__law_fraction_said_s1, bStr_S h.n, bStr_S (i := (q.den : Int)) h.dn]
      rw [a1]
      simp only [tri_ok]
      rw [a2]
      simp [tx, hd]
  obtain ⟨r, m', e, rfl, rfl⟩ := key.ex
  exact e
theorem law_text_then {B : Int} {p : Ppr} (hB : B ≤ 10 ^ 10) (o : OkP B p) (h : ∀ m', Kp m m' → P (.str (pT p)) m') : Tri (m__law_paper_text [pprD p] m) P := by
  have hw := p_words hB o
  have jl : ∀ l : List Str, l ∈ wordsP p → ∀ m, gJoin (.str (Str.ofString " ")) [.lst (l.map .str)] m = .ok (.str (lineS l)) m := fun l hl m => line_join rfl (hw l hl).1 (by have := (hw l hl).2.1; omega)
  refine tri_fn rfl ?_
  cases p with
  | alike a b gs =>
    obtain ⟨ha, hb, hl, hgs⟩ := id o
    simp [b__law_paper_text, pprD]
    rw [bStr_num ha.1 (by omega)]
    simp only [tri_ok]
    have bA : ∀ m, bStrA [.int b] m = .ok (.str (numS b)) m := fun m => bStr_num hb.1 (by omega) m
    rw [bA]
    simp only [tri_ok]
    rw [show D.lst [.str alikeS, .str (numS a), .str (numS b)] = .lst ([alikeS, numS a, numS b].map .str) from rfl, jl _ (by simp [wordsP])]
    simp only [tri_ok]
    generalize hH : lineS [alikeS, numS a, numS b] = H
    have hc1 : (m ++ [Cell.lst [.str H]])[m.length]? = some (.lst [.str H]) := by simp
    have hk1 : Kp m (m ++ [Cell.lst [.str H]]) := (Kp.refl m).push _
    generalize m ++ [Cell.lst [.str H]] = m1 at hc1 hk1
    have t3 : ∀ m, gSl false (.tup [.str alikeS, .int a, .int b, .tup (gs.map qD)]) (some 3) none m = .ok (.tup [.tup (gs.map qD)]) m := fun m => rfl
    have t4 : ∀ m, gSl false (.tup [.str alikeS, .int a, .int b, .tup (gs.map qD)]) (some 4) none m = .ok (.tup []) m := fun m => rfl
    have lz : ∀ m, lzR false (.lst [.str (Str.ofString "weights"), .str (Str.ofString "goes")]) (.tup [.tup (gs.map qD)]) m = .ok (.lst [.tup [.str (Str.ofString "weights"), .tup (gs.map qD)]]) m := fun m => rfl
    have gm : ∀ m, gMulI (.int 0) (.int 2) m = .ok (.int 0) m := fun m => rfl
    have pr : ∀ m, partR (.int 0) m = .ok (some 0) m := fun m => rfl
    have sl0 : ∀ (x : D) m, gSl false (.lst [x]) none (some 0) m = .ok (.lst []) m := fun x m => rfl
    have g0 : ∀ m, gIx (.tup [.str alikeS, .int a, .int b, .tup (gs.map qD)]) (.int 0) m = .ok (.str (Str.ofString "alike")) m := fun m => rfl
    have g3 : ∀ m, gIx (.tup [.str alikeS, .int a, .int b, .tup (gs.map qD)]) (.int 3) m = .ok (.tup (gs.map qD)) m := fun m => rfl
    simp [b__law_paper_text_s1, t3, t4, lz, gm, pr, sl0]
    refine for_inv (fun _ η m' => η = [some (.tup [.str alikeS, .int a, .int b, .tup (gs.map qD)]), some (.ref m.length), none, none, none] ∧ m' = m1) [] ⟨rfl, rfl⟩ (fun j d η m h => by simp at h) (fun η m' hI => ?_)
    obtain ⟨rfl, rfl⟩ := hI
    simp [b__law_paper_text_s2, g0, g3, isTy_ref hc1]
    refine tri_map qD (fun q => D.str (txS q)) gs (fun q hq => ⟨_, rfl, rfl, by simp [wipeE, said_eq (hgs q hq)]⟩) (by omega) ?_
    have ad1 : ∀ m, gAdd false (.lst [.str (Str.ofString "goes")]) (.lst (gs.map fun q => D.str (txS q))) m = .ok (.lst ((rowW goesS gs).map .str)) m := fun m => by
      rw [add_lst (by simp; omega)]
      simp [rowW, goesS, List.map_map, Function.comp_def]
    simp only [mkL_f, tri_ok, ad1]
    rw [jl (rowW goesS gs) (by simp [wordsP])]
    simp only [tri_ok]
    have app : gAppend (.ref m.length) [.str (lineS (rowW goesS gs))] m' = .ok .non (m'.set m.length (.lst ([.str H] ++ [.str (lineS (rowW goesS gs))]))) := append_ref hc1 (by simp)
    rw [app]
    simp only [tri_ok]
    have hc2 : (m'.set m.length (.lst ([.str H] ++ [.str (lineS (rowW goesS gs))])))[m.length]? = some (.lst (((wordsP (.alike a b gs)).map lineS).map .str)) := by
      rw [List.getElem?_set_self (List.getElem?_eq_some_iff.mp hc1).1, ← hH]; rfl
    have hk2 : Kp m (m'.set m.length (.lst ([.str H] ++ [.str (lineS (rowW goesS gs))]))) := hk1.put (Nat.le_refl _) _
    generalize m'.set m.length (.lst ([.str H] ++ [.str (lineS (rowW goesS gs))])) = m2 at hc2 hk2
    simp [b__law_paper_text_s3]
    rw [p_join hB o (seq_ref hc2)]
    exact h m2 hk2
  | open' a x us gs =>
    obtain ⟨ha, hx, ⟨h5, hus⟩, h6, hgs⟩ := id o
    simp [b__law_paper_text, pprD]
    rw [bStr_num ha.1 (by omega)]
    simp only [tri_ok]
    have bs : ∀ m, bStrA [.str x] m = .ok (.str x) m := fun m => rfl
    rw [bs]
    simp only [tri_ok]
    rw [show D.lst [.str openS, .str (numS a), .str x] = .lst ([openS, numS a, x].map .str) from rfl, jl _ (by simp [wordsP])]
    simp only [tri_ok]
    generalize hH : lineS [openS, numS a, x] = H
    have hc1 : (m ++ [Cell.lst [.str H]])[m.length]? = some (.lst [.str H]) := by simp
    have hk1 : Kp m (m ++ [Cell.lst [.str H]]) := (Kp.refl m).push _
    generalize m ++ [Cell.lst [.str H]] = m1 at hc1 hk1
    have t3 : ∀ m, gSl false (.tup [.str openS, .int a, .str x, .tup (us.map qD), .tup (gs.map qD)]) (some 3) none m = .ok (.tup [.tup (us.map qD), .tup (gs.map qD)]) m := fun m => rfl
    have t4 : ∀ m, gSl false (.tup [.str openS, .int a, .str x, .tup (us.map qD), .tup (gs.map qD)]) (some 4) none m = .ok (.tup [.tup (gs.map qD)]) m := fun m => rfl
    have lz : ∀ m, lzR false (.lst [.str (Str.ofString "weights"), .str (Str.ofString "goes")]) (.tup [.tup (us.map qD), .tup (gs.map qD)]) m = .ok (.lst [.tup [.str (Str.ofString "weights"), .tup (us.map qD)], .tup [.str (Str.ofString "goes"), .tup (gs.map qD)]]) m := fun m => rfl
    have gm : ∀ m, gMulI (.int 1) (.int 2) m = .ok (.int 2) m := fun m => rfl
    have pr : ∀ m, partR (.int 2) m = .ok (some 2) m := fun m => rfl
    have sl0 : ∀ (p q : D) m, gSl false (.lst [p, q]) none (some 2) m = .ok (.lst [p, q]) m := fun p q m => rfl
    have g0 : ∀ m, gIx (.tup [.str openS, .int a, .str x, .tup (us.map qD), .tup (gs.map qD)]) (.int 0) m = .ok (.str (Str.ofString "open")) m := fun m => rfl
    simp [b__law_paper_text_s1, t3, t4, lz, gm, pr, sl0]
    obtain ⟨Inv, hInv⟩ : ∃ I : Nat → Env' → Mem → Prop, ∀ k η m', I k η m' ↔ (Kp m m' ∧ ∃ (e2 e3 e4 : Option D), η = [some (.tup [.str openS, .int a, .str x, .tup (us.map qD), .tup (gs.map qD)]), some (.ref m.length), e2, e3, e4] ∧ m'[m.length]? = some (.lst (((H :: ([rowW weightsS us, rowW goesS gs].take k).map lineS)).map .str))) := ⟨_, fun _ _ _ => Iff.rfl⟩
    refine for_inv Inv [.tup [.str (Str.ofString "weights"), .tup (us.map qD)], .tup [.str (Str.ofString "goes"), .tup (gs.map qD)]] ((hInv _ _ _).mpr ⟨hk1, _, _, _, rfl, hc1⟩) (fun k d η m2 hkd hI => ?_) (fun η m2 hI => ?_)
    · obtain ⟨hk2, e2, e3, e4, rfl, hc2⟩ := (hInv _ _ _).mp hI
      obtain ⟨w, vs, hd, hv5, hvs, hrow, hin⟩ : ∃ (w : Str) (vs : List Rat), d = .tup [.str w, .tup (vs.map qD)] ∧ vs.length ≤ 900 ∧ (∀ p ∈ vs, F30 p) ∧ [rowW weightsS us, rowW goesS gs][k]? = some (rowW w vs) ∧ rowW w vs ∈ wordsP (.open' a x us gs) := by
        have hk : k = 0 ∨ k = 1 := by
          have := (List.getElem?_eq_some_iff.mp hkd).1
          simp at this
          omega
        rcases hk with rfl | rfl
        · cases hkd
          exact ⟨weightsS, us, rfl, h5, hus, rfl, by simp [wordsP]⟩
        · cases hkd
          exact ⟨goesS, gs, rfl, h6, hgs, rfl, by simp [wordsP]⟩
      subst hd
      simp [isTy_ref hc2]
      refine tri_map qD (fun q => D.str (txS q)) vs (fun q hq => ⟨_, rfl, rfl, by simp [wipeE, said_eq (hvs q hq)]⟩) (by omega) ?_
      have ad1 : ∀ m, gAdd false (.lst [.str w]) (.lst (vs.map fun q => D.str (txS q))) m = .ok (.lst ((rowW w vs).map .str)) m := fun m => by
        rw [add_lst (by simp; omega)]
        simp [rowW, List.map_map, Function.comp_def]
      simp only [mkL_f, tri_ok, ad1]
      rw [jl (rowW w vs) hin]
      simp only [tri_ok]
      have app : gAppend (.ref m.length) [.str (lineS (rowW w vs))] m2 = .ok .non (m2.set m.length (.lst (((H :: ([rowW weightsS us, rowW goesS gs].take k).map lineS)).map .str ++ [.str (lineS (rowW w vs))]))) := append_ref hc2 (by simp; omega)
      rw [app]
      simp only [tri_ok]
      refine (hInv _ _ _).mpr ⟨hk2.put (Nat.le_refl _) _, _, _, _, rfl, ?_⟩
      rw [List.getElem?_set_self (List.getElem?_eq_some_iff.mp hc2).1, List.take_add_one, hrow]
      simp
    · obtain ⟨hk2, e2, e3, e4, rfl, hc2⟩ := (hInv _ _ _).mp hI
      have ne : ¬ Str.ofString "open" = Str.ofString "alike" := by decide +kernel
      simp [b__law_paper_text_s2, g0, ne, b__law_paper_text_s3]
      have hc3 : m2[m.length]? = some (.lst (((wordsP (.open' a x us gs)).map lineS).map .str)) := by
        rw [hc2, ← hH]; rfl
      rw [p_join hB o (seq_ref hc3)]
      exact h m2 hk2
/-- the paper with a room of ten figures -/
def farP (a : Int) : Ppr → Ppr
  | .alike _ b gs => .alike a b gs
  | .open' _ x us gs => .open' a x us gs
theorem alike_str (x : Str) (m : Mem) : m__law_alike 12 [.str x, .str x] m = .ok (.bl true) m := alike_self rfl
theorem pT_len {p : Ppr} (o : OkP (10 ^ 10) p) (hl : Short p) : (pT p).length ≤ 20000 := by
  have hw := p_words (by decide) o
  have hw2 : ∀ l ∈ wordsP p, l.length ≤ 31 := by
    intro l hl'
    cases p with
    | alike a b gs =>
      have : l = [alikeS, numS a, numS b] ∨ l = rowW goesS gs := by simpa [wordsP] using hl'
      rcases this with rfl | rfl
      · simp
      · simp [rowW]; exact hl
    | open' a x us gs =>
      have : l = [openS, numS a, x] ∨ l = rowW weightsS us ∨ l = rowW goesS gs := by simpa [wordsP] using hl'
      rcases this with rfl | rfl | rfl
      · simp
      · simp [rowW]; exact hl.1
      · simp [rowW]; exact hl.2
  have h2 := Mir.V.joinL_len (S := [10]) (B := 31 * 71) (ps := ((wordsP p).map lineS).map TL.tl) fun q hq => by
    obtain ⟨z, hz, rfl⟩ := List.mem_map.mp hq
    obtain ⟨l, hl, rfl⟩ := List.mem_map.mp hz
    have h3 := line_leng (hw l hl).1
    have h4 := Nat.mul_le_mul_right 71 (hw2 l hl)
    show (lineS l).length ≤ _
    omega
  rw [List.length_map, List.length_map] at h2
  have hpl : (wordsP p).length ≤ 3 := by cases p <;> simp [wordsP]
  show (TL.tl _).length ≤ _
  unfold pT
  rw [TL.join_eq, TL.tl_join, Mir.V.tl_nl]
  have h4 : (wordsP p).length * (31 * 71 + [10].length) ≤ 3 * (31 * 71 + [10].length) := Nat.mul_le_mul_right _ hpl
  refine Nat.le_trans h2 (Nat.le_trans h4 (by decide))
theorem pT_all {p : Ppr} (o : OkP (10 ^ 9) p) : (pT p).length ≤ 1000000 := by
  have hw := p_words (by decide) o
  have h2 := Mir.V.joinL_len (S := [10]) (B := 901 * 71) (ps := ((wordsP p).map lineS).map TL.tl) fun q hq => by
    obtain ⟨z, hz, rfl⟩ := List.mem_map.mp hq
    obtain ⟨l, hl, rfl⟩ := List.mem_map.mp hz
    have h3 := line_leng (hw l hl).1
    have h4 := Nat.mul_le_mul_right 71 (hw l hl).2.1
    show (lineS l).length ≤ _
    omega
  rw [List.length_map, List.length_map] at h2
  have hpl : (wordsP p).length ≤ 3 := by cases p <;> simp [wordsP]
  show (TL.tl _).length ≤ _
  unfold pT
  rw [TL.join_eq, TL.tl_join, Mir.V.tl_nl]
  have h4 : (wordsP p).length * (901 * 71 + [10].length) ≤ 3 * (901 * 71 + [10].length) := Nat.mul_le_mul_right _ hpl
  refine Nat.le_trans h2 (Nat.le_trans h4 (by decide))
theorem alone_then {p : Ppr} (o : OkP (10 ^ 9) p) (hl : Short p) (hf : FlowAt m i) (h : ∀ m', P (.bl true) m') : Tri (m__law_is_written_alone [.ref i, pprD p] m) P := by
  refine tri_fn rfl ?_
  have e9 : ∀ m, gPow (.int 10) (.int 9) m = .ok (.int 1000000000) m := fun m => rfl
  have e6 : ∀ m, gPow (.int 10) (.int 6) m = .ok (.int 1000000) m := fun m => rfl
  obtain ⟨k0, rest, hp, hk0, hr⟩ : ∃ (k0 : Str) (rest : List D), (∀ m, gIx (pprD p) (.int 0) m = .ok (.str k0) m) ∧ (∀ m, gSl false (pprD p) (some 2) none m = .ok (.tup rest) m) ∧ rest.length ≤ 3 ∧ ∀ a, pprD (farP a p) = .tup (.str k0 :: .int a :: rest) := by
    cases p with
    | alike a b gs => exact ⟨alikeS, [.int b, .tup (gs.map qD)], fun m => rfl, fun m => rfl, by simp, fun a => rfl⟩
    | open' a x us gs => exact ⟨openS, [.str x, .tup (us.map qD), .tup (gs.map qD)], fun m => rfl, fun m => rfl, by simp, fun a => rfl⟩
  have h2 : 2 ≤ sizeLine := size_le (by decide)
  simp [b__law_is_written_alone, hp, e9, e6]
  refine pick_then hf (by decide) (by decide) fun a m1 ha hfl1 => ?_
  obtain ⟨A, hA⟩ : ∃ A : Int, A = 1000000000 + (a : Int) := ⟨_, rfl⟩
  simp [h2, hk0]
  rw [← hA, gAdd_tup (by simp; omega)]
  have ep : D.tup ([.str k0, .int A] ++ rest) = pprD (farP A p) := (hr.2 A).symm
  rw [ep]
  have eB : (10 : Int) ^ 10 = 10000000000 := by decide
  have o2 : OkP (10 ^ 10) (farP A p) := by
    cases p with
    | alike a b gs => exact ⟨⟨by omega, by omega⟩, ⟨o.2.1.1, by have := o.2.1.2; omega⟩, o.2.2⟩
    | open' a x us gs => exact ⟨⟨by omega, by omega⟩, o.2⟩
  have hl2 : (pT (farP A p)).length ≤ 20000 := pT_len o2 (by cases p <;> exact hl)
  have hfar : outW (pT (farP A p)) = .bad 0 := p_far o2 (by
    have : (10 : Int) ^ 9 = 1000000000 := by decide
    cases p <;> (show (10 : Int) ^ 9 ≤ A; omega))
  simp [b__law_is_written_alone_s1]
  refine law_text_then (by decide) o2 fun m2 hk2 => ?_
  simp [b__law_is_written_alone_s2]
  refine paper_text_then (by decide) o2 fun m3 hk3 => ?_
  rw [alike_str]
  simp [b__law_is_written_alone_s3, b__law_is_written_alone_s4]
  refine read_paper_then hl2 (fun i e => ?_) (fun d e => by rw [hfar] at e; cases e)
  rw [hfar] at e
  cases e
  have e1 : (m3 ++ [Cell.exc (Mir.N.xText 0).cls (Mir.N.xText 0).fs])[m3.length]? = some (.exc "NoText" [("row", .int 0)]) := by simp [Mir.N.xText]
  have q1 : ([("NoText", true)] : List (Str × Bool)).lookup (Mir.N.xText 0).cls = some true := by decide +kernel
  have q1' : ([("NoText", true)] : List (Str × Bool)).lookup (Mir.N.xText ((0 : Nat) : Int)).cls = some true := q1
  rw [q1']
  simp only []
  have ez : (m3 ++ [Cell.exc (Mir.N.xText ((0 : Nat) : Int)).cls (Mir.N.xText ((0 : Nat) : Int)).fs]) = m3 ++ [Cell.exc (Mir.N.xText 0).cls (Mir.N.xText 0).fs] := rfl
  rw [ez]
  generalize m3 ++ [Cell.exc (Mir.N.xText 0).cls (Mir.N.xText 0).fs] = m5 at e1
  have pe : putE 6 m3.length (some 5) = [none, none, none, none, none, some (.ref m3.length)] := rfl
  rw [pe]
  simp [excOf_ref e1, offE, b__law_is_written_alone_s5]
  have a2 : m__law_alike 12 [.int 0, .int 0] m5 = .ok (.bl true) m5 := alike_self rfl
  rw [a2]
  exact h m5
def withG (gs : List Rat) : Ppr → Ppr
  | .alike a b _ => .alike a b gs
  | .open' a x us _ => .open' a x us gs
theorem law_true (ns : List Int) (hl : ns.length ≤ 63) : ∃ m, m_law [.scr (ns.map .int)] [] = .ok (.bl true) m := by
  have key : Tri (m_law [.scr (ns.map .int)] []) (fun d m' => d = .bl true) := by
    refine tri_fn rfl ?_
    obtain ⟨m0, e0, hf⟩ := flow_y ns hl
    have h2 : 2 ≤ sizeLine := size_le (by decide)
    simp [b_law, e0, b_law_s1, -rng1R_int]
    have r2 := rng_nat (n := 2) (by decide) m0
    rw [show (2 : Int) = ((2 : Nat) : Int) from rfl, r2]
    simp only [tri_ok, ap_lclP]
    refine (comp_draw pprD (fun p => OkP (10 ^ 9) p ∧ Short p) hf (by unfold rngD; simp) ?_).mono ?_
    · intro d m' hd hfl
      simp [wipeE]
      exact paper_then hfl.at fun p m2 o s hfl2 => ⟨p, rfl, ⟨o, s⟩, hfl.trans hfl2⟩
    · rintro _ m1 ⟨ps, rfl, hpl, hps, hfl1⟩
      obtain ⟨p0, p1, rfl⟩ : ∃ p0 p1, ps = [p0, p1] := by
        have : ps.length = 2 := by rw [hpl]; unfold rngD; simp
        match ps, this with
        | [a, b], _ => exact ⟨a, b, rfl⟩
      obtain ⟨o0, s0⟩ := hps p0 (by simp)
      obtain ⟨o1, s1⟩ := hps p1 (by simp)
      simp
      have hc : (m1 ++ [Cell.lst [pprD p0, pprD p1]])[m1.length]? = some (.lst [pprD p0, pprD p1]) := by simp
      have hfl2 : Flo m0 (m1 ++ [Cell.lst [pprD p0, pprD p1]]) 0 := hfl1.push _
      have hq0 : m1.length ≠ 0 := by have := hf.lt; have := hfl1.2.1; omega
      generalize m1 ++ [Cell.lst [pprD p0, pprD p1]] = m2 at hc hfl2
      generalize m1.length = q at hc hq0 ⊢
      have hf2 := hfl2.at
      clear hfl2
      have rest : ∀ (p1 : Ppr) (m3 : Mem) (e3 e4 e5 e6 e7 : Option D) (N : Env' → Mem → Prop), OkP (10 ^ 9) p1 → FlowAt m3 0 → m3[q]? = some (.lst [pprD p0, pprD p1]) → TriS (b_law_s3 [some (.scr (ns.map .int)), some (.ref 0), some (.ref q), e3, e4, e5, e6, e7] m3) N (fun d _ => d = .bl true) := by
        intro p1 m3 e3 e4 e5 e6 e7 N o1 hf3 hc3
        have ht : gSl false (.ref q) none (some 1) m3 = .ok (.lst [pprD p0]) m3 := by
          rw [sl_ref hc3]
          exact congrArg (fun z => R.ok (D.lst z) m3) (cutD_take [pprD p0, pprD p1] 1)
        simp [b_law_s3, ht]
        rw [cat_own (own_ref hc3) (own_lst _ _) (by simp)]
        simp
        obtain ⟨Inv, hInv⟩ : ∃ I : Nat → Env' → Mem → Prop, ∀ k η m', I k η m' ↔ (Kp m3 m' ∧ ∃ (e3 e5 : Option D), η = [some (.scr (ns.map .int)), some (.ref 0), some (.ref q), e3, e4, e5, e6, e7]) := ⟨_, fun _ _ _ => Iff.rfl⟩
        refine for_inv Inv _ ((hInv _ _ _).mpr ⟨Kp.refl _, _, _, rfl⟩) (fun k d η m4 hkd hI => ?_) (fun η m4 hI => ?_)
        · obtain ⟨hk4, e3, e5, rfl⟩ := (hInv _ _ _).mp hI
          obtain ⟨p, rfl, o⟩ : ∃ p, d = pprD p ∧ OkP (10 ^ 9) p := by
            have hm := List.mem_of_getElem? hkd
            have : d = pprD p0 ∨ d = pprD p1 ∨ d = pprD p0 := by simpa using hm
            rcases this with h | h | h
            · exact ⟨p0, h, o0⟩
            · exact ⟨p1, h, o1⟩
            · exact ⟨p0, h, o0⟩
          simp [b_law_2]
          refine law_text_then (by decide) o fun m5 hk5 => ?_
          have hk5 := hk4.trans hk5
          simp [b_law_2s1]
          rw [bLen_str (pT_all o)]
          simp
          by_cases hlen : ((pT p).length : Int) ≤ 2000
          · rw [if_pos hlen]
            have hl2 : (pT p).length ≤ 20000 := by omega
            simp [b_law_1]
            refine paper_text_then (by decide) o fun m6 hk6 => ?_
            rw [alike_str]
            simp
            refine read_back_then o hl2 ?_
            rw [alike_ppr o]
            simp [b_law_1s1]
            refine read_back_then o hl2 ?_
            refine paper_text_then (by decide) o fun m7 hk7 => ?_
            rw [alike_str]
            simp
            exact (hInv _ _ _).mpr ⟨hk5.trans (hk6.trans hk7), _, _, rfl⟩
          · rw [if_neg hlen]
            exact (hInv _ _ _).mpr ⟨hk5, _, _, rfl⟩
        · obtain ⟨hk4, e3, e5, rfl⟩ := (hInv _ _ _).mp hI
          have hc4 := hk4.get hc3
          have hf4 := (hk4.flo hf3).at
          have gi : gIx (.ref q) (.int 0) m4 = .ok (pprD p0) m4 := gIx_ref hc4 rfl
          simp [b_law_s4, gi]
          exact alone_then o0 s0 hf4 fun m' => rfl
      simp [b_law_s2]
      refine pick_then hf2 (by decide) (by decide) fun n m3 hn hfl3 => ?_
      have hc3 := hfl3.get hq0 hc
      have hf3 := hfl3.at
      simp
      by_cases hz : n = 0
      · rw [if_pos hz]
        simp [b_law_0, -rng1R_int]
        have h2' : 2 ≤ sizeLine := size_le (by decide)
        refine pick_then hf3 (by decide) (by decide) fun n4 m4 hn4 hfl4 => ?_
        obtain ⟨c, hc0, hc1, ec⟩ : ∃ c : Int, 0 < c ∧ c ≤ 500 ∧ gIx (.lst [.int 90, .int 500]) (.int (n4 : Nat)) m4 = .ok (.int c) m4 := by
          have : n4 = 0 ∨ n4 = 1 := by omega
          rcases this with rfl | rfl
          · exact ⟨90, by decide, by decide, rfl⟩
          · exact ⟨500, by decide, by decide, rfl⟩
        simp [ec, -rng1R_int]
        refine pick_then hfl4.at hc0 (by omega) fun n5 m5 hn5 hfl5 => ?_
        have hfl5 := hfl4.trans hfl5
        simp [-rng1R_int]
        rw [show (30 : Int) + (n5 : Int) = ((30 + n5 : Nat) : Int) by omega, rng_nat (by omega)]
        simp only [tri_ok, ap_lclP]
        refine (comp_draw qD F30 hfl5.at (by unfold rngD; simp; omega) ?_).mono ?_
        · intro d m' hd hfl
          simp [wipeE]
          refine pick_then hfl.at (by decide) (by decide) fun k m6 hk hfl6 => ?_
          obtain ⟨qq, e, hq⟩ := one_q (u := (k : Int) - 4) (by
            have : ((k : Int) - 4).natAbs < 10 := by omega
            exact Nat.lt_trans this (by decide))
          simp [h2']
          exact ⟨qq, e, hq, hfl.trans hfl6⟩
        · rintro _ m6 ⟨gs, rfl, hgl, hgs, hfl6⟩
          have hfl6 := hfl5.trans hfl6
          have hc6 := hfl6.get hq0 hc3
          have hgl' : gs.length ≤ 900 := by
            rw [hgl]; unfold rngD; simp; omega
          have gi : gIx (.ref q) (.int 1) m6 = .ok (pprD p1) m6 := gIx_ref hc6 rfl
          simp [b_law_0s1, gi]
          obtain ⟨init, ei, ew, hil⟩ : ∃ init : List D, (∀ m, gSl false (pprD p1) none (some (-1)) m = .ok (.tup init) m) ∧ D.tup (init ++ [.tup (gs.map qD)]) = pprD (withG gs p1) ∧ init.length ≤ 4 := by
            cases p1 with
            | alike a b g => exact ⟨[.str alikeS, .int a, .int b], fun m => rfl, rfl, by simp⟩
            | open' a x u g => exact ⟨[.str openS, .int a, .str x, .tup (u.map qD)], fun m => rfl, rfl, by simp⟩
          rw [ei]
          simp only [tri_ok]
          have bt : ∀ m, bTuple [.lst (gs.map qD)] m = .ok (.tup (gs.map qD)) m := fun m => rfl
          have h1' : 1 ≤ sizeLine := size_le (by decide)
          rw [gAdd_tup (by simp; omega)]
          have st : gSet (.ref q) (.int 1) (pprD (withG gs p1)) m6 = .ok () (m6.set q (.lst ([pprD p0, pprD p1].set 1 (pprD (withG gs p1))))) := gSet_ref hc6 (j := 1) rfl
          rw [ew]
          simp only [st, tri_ok]
          have o2 : OkP (10 ^ 9) (withG gs p1) := by
            cases p1 with
            | alike a b g => exact ⟨o1.1, o1.2.1, hgl', hgs⟩
            | open' a x u g => exact ⟨o1.1, o1.2.1, o1.2.2.1, hgl', hgs⟩
          refine rest (withG gs p1) _ _ _ _ _ _ _ o2 ?_ ?_
          · obtain ⟨l, e, hl⟩ := hfl6.at
            exact ⟨l, by rw [List.getElem?_set_ne hq0]; exact e, hl⟩
          · rw [List.getElem?_set_self (List.getElem?_eq_some_iff.mp hc6).1]
            rfl
      · rw [if_neg hz]
        exact rest p1 m3 _ _ _ _ _ _ o1 hf3 hc3
  obtain ⟨d, m', e, rfl⟩ := key.ex
  exact ⟨m', e⟩
end
end Lw

namespace Lw
open PySem PySem.Spec PyProof.Rows L2 Mir Mir.Y
/-! ### what the top has written -/
def spLaw (K : PySem.W.Frag) : Sp := fun vs H Q _ => ∃ (a : Addr) (ns : List Int), vs = [.ref a] ∧ SqL K H a (ns.map V.int) ∧ ns.length ≤ 63 ∧ ∀ H', Q (.bl true) H'
theorem all_mk {l : PySem.W.OpenLaw} {w : World} {K : PySem.W.Frag} {h : Heap} {mg : Str → Option Value} {fa : Addr} (X : K.In h) (G : h.Ns mainGlobals mg) (hfa : mg "law" = some (.ref fa))
    {f0 : Addr} {od0 an0 : Option Addr} {sl0 : Array (Option Value)} {oc0 kV0 dc0 pm0 cd0 ct0 : Value}
    {f1 : Addr} {od1 an1 : Option Addr} {sl1 : Array (Option Value)} {oc1 kV1 dc1 pm1 cd1 ct1 : Value}
    {T2 : Addr} {to2 : Value} {td2 : Option Addr} {ti2 : List Value} {tn2 : Nat} {ts2 : Array (Option Value)}
    {f2 : Addr} {od2 an2 : Option Addr} {sl2 : Array (Option Value)} {oc2 kV2 dc2 pm2 cd2 ct2 : Value}
    {f3 : Addr} {od3 an3 : Option Addr} {sl3 : Array (Option Value)} {oc3 kV3 dc3 pm3 cd3 ct3 : Value}
    {f4 : Addr} {od4 an4 : Option Addr} {sl4 : Array (Option Value)} {oc4 kV4 dc4 pm4 cd4 ct4 : Value}
    {f5 : Addr} {od5 an5 : Option Addr} {sl5 : Array (Option Value)} {oc5 kV5 dc5 pm5 cd5 ct5 : Value}
    {f6 : Addr} {od6 an6 : Option Addr} {sl6 : Array (Option Value)} {oc6 kV6 dc6 pm6 cd6 ct6 : Value}
    {f7 : Addr} {od7 an7 : Option Addr} {sl7 : Array (Option Value)} {oc7 kV7 dc7 pm7 cd7 ct7 : Value}
    {f8 : Addr} {od8 an8 : Option Addr} {sl8 : Array (Option Value)} {oc8 kV8 dc8 pm8 cd8 ct8 : Value}
    {f9 : Addr} {od9 an9 : Option Addr} {sl9 : Array (Option Value)} {oc9 kV9 dc9 pm9 cd9 ct9 : Value}
    {f10 : Addr} {od10 an10 : Option Addr} {sl10 : Array (Option Value)} {oc10 kV10 dc10 pm10 cd10 ct10 : Value}
    {f11 : Addr} {od11 an11 : Option Addr} {sl11 : Array (Option Value)} {oc11 kV11 dc11 pm11 cd11 ct11 : Value}
    {f12 : Addr} {od12 an12 : Option Addr} {sl12 : Array (Option Value)} {oc12 kV12 dc12 pm12 cd12 ct12 : Value}
    {f13 : Addr} {od13 an13 : Option Addr} {sl13 : Array (Option Value)} {oc13 kV13 dc13 pm13 cd13 ct13 : Value}
    {f14 : Addr} {od14 an14 : Option Addr} {sl14 : Array (Option Value)} {oc14 kV14 dc14 pm14 cd14 ct14 : Value}
    {f15 : Addr} {od15 an15 : Option Addr} {sl15 : Array (Option Value)} {oc15 kV15 dc15 pm15 cd15 ct15 : Value}
    {f16 : Addr} {od16 an16 : Option Addr} {sl16 : Array (Option Value)} {oc16 kV16 dc16 pm16 cd16 ct16 : Value}
    {f17 : Addr} {od17 an17 : Option Addr} {sl17 : Array (Option Value)} {oc17 kV17 dc17 pm17 cd17 ct17 : Value}
    {f18 : Addr} {od18 an18 : Option Addr} {sl18 : Array (Option Value)} {oc18 kV18 dc18 pm18 cd18 ct18 : Value}
    {f19 : Addr} {od19 an19 : Option Addr} {sl19 : Array (Option Value)} {oc19 kV19 dc19 pm19 cd19 ct19 : Value}
    {f20 : Addr} {od20 an20 : Option Addr} {sl20 : Array (Option Value)} {oc20 kV20 dc20 pm20 cd20 ct20 : Value}
    {f21 : Addr} {od21 an21 : Option Addr} {sl21 : Array (Option Value)} {oc21 kV21 dc21 pm21 cd21 ct21 : Value}
    {f22 : Addr} {od22 an22 : Option Addr} {sl22 : Array (Option Value)} {oc22 kV22 dc22 pm22 cd22 ct22 : Value}
    (a0 : PySem.W.nsIn K mainGlobals "is_name" = some (some (.ref f0))) (l0 : K.lookup f0 = some ⟨oc0, od0, .func (PySem.W.fnOf "is_name" "is_name" (defArgs st_is_name) (defBody st_is_name) (defScope st_is_name) .none kV0 dc0 pm0 an0 cd0 ct0), sl0⟩) (c0 : PySem.W.codeIn K cd0 "is_name" = true) (k0 : PySem.W.keepIn K (.ref f0) = true)
    (a1 : PySem.W.nsIn K mainGlobals "is_figures" = some (some (.ref f1))) (l1 : K.lookup f1 = some ⟨oc1, od1, .func (PySem.W.fnOf "is_figures" "is_figures" (defArgs st_is_figures) (defBody st_is_figures) (defScope st_is_figures) .none kV1 dc1 pm1 an1 cd1 ct1), sl1⟩) (c1 : PySem.W.codeIn K cd1 "is_figures" = true) (k1 : PySem.W.keepIn K (.ref f1) = true)
    (a2 : PySem.W.nsIn K mainGlobals "number_of" = some (some (.ref f2))) (l2 : K.lookup f2 = some ⟨oc2, od2, .func (PySem.W.fnOf "number_of" "number_of" (defArgs st_number_of) (defBody st_number_of) (defScope st_number_of) (.ref T2) kV2 dc2 pm2 an2 cd2 ct2), sl2⟩) (c2 : PySem.W.codeIn K cd2 "number_of" = true) (k2 : PySem.W.keepIn K (.ref f2) = true)
    (d2 : K.lookup T2 = some ⟨to2, td2, .seq ti2.toArray tn2, ts2⟩) (e2 : Vals [.int 9] ti2)
    (a3 : PySem.W.nsIn K mainGlobals "common" = some (some (.ref f3))) (l3 : K.lookup f3 = some ⟨oc3, od3, .func (PySem.W.fnOf "common" "common" (defArgs st_common) (defBody st_common) (defScope st_common) .none kV3 dc3 pm3 an3 cd3 ct3), sl3⟩) (c3 : PySem.W.codeIn K cd3 "common" = true) (k3 : PySem.W.keepIn K (.ref f3) = true)
    (a4 : PySem.W.nsIn K mainGlobals "fraction_text" = some (some (.ref f4))) (l4 : K.lookup f4 = some ⟨oc4, od4, .func (PySem.W.fnOf "fraction_text" "fraction_text" (defArgs st_fraction_text) (defBody st_fraction_text) (defScope st_fraction_text) .none kV4 dc4 pm4 an4 cd4 ct4), sl4⟩) (c4 : PySem.W.codeIn K cd4 "fraction_text" = true) (k4 : PySem.W.keepIn K (.ref f4) = true)
    (a5 : PySem.W.nsIn K mainGlobals "fraction_of" = some (some (.ref f5))) (l5 : K.lookup f5 = some ⟨oc5, od5, .func (PySem.W.fnOf "fraction_of" "fraction_of" (defArgs st_fraction_of) (defBody st_fraction_of) (defScope st_fraction_of) .none kV5 dc5 pm5 an5 cd5 ct5), sl5⟩) (c5 : PySem.W.codeIn K cd5 "fraction_of" = true) (k5 : PySem.W.keepIn K (.ref f5) = true)
    (a6 : PySem.W.nsIn K mainGlobals "fractions_row" = some (some (.ref f6))) (l6 : K.lookup f6 = some ⟨oc6, od6, .func (PySem.W.fnOf "fractions_row" "fractions_row" (defArgs st_fractions_row) (defBody st_fractions_row) (defScope st_fractions_row) .none kV6 dc6 pm6 an6 cd6 ct6), sl6⟩) (c6 : PySem.W.codeIn K cd6 "fractions_row" = true) (k6 : PySem.W.keepIn K (.ref f6) = true)
    (a7 : PySem.W.nsIn K mainGlobals "paper_text" = some (some (.ref f7))) (l7 : K.lookup f7 = some ⟨oc7, od7, .func (PySem.W.fnOf "paper_text" "paper_text" (defArgs st_paper_text) (defBody st_paper_text) (defScope st_paper_text) .none kV7 dc7 pm7 an7 cd7 ct7), sl7⟩) (c7 : PySem.W.codeIn K cd7 "paper_text" = true) (k7 : PySem.W.keepIn K (.ref f7) = true)
    (a8 : PySem.W.nsIn K mainGlobals "room_in" = some (some (.ref f8))) (l8 : K.lookup f8 = some ⟨oc8, od8, .func (PySem.W.fnOf "room_in" "room_in" (defArgs st_room_in) (defBody st_room_in) (defScope st_room_in) .none kV8 dc8 pm8 an8 cd8 ct8), sl8⟩) (c8 : PySem.W.codeIn K cd8 "room_in" = true) (k8 : PySem.W.keepIn K (.ref f8) = true)
    (a9 : PySem.W.nsIn K mainGlobals "head_in" = some (some (.ref f9))) (l9 : K.lookup f9 = some ⟨oc9, od9, .func (PySem.W.fnOf "head_in" "head_in" (defArgs st_head_in) (defBody st_head_in) (defScope st_head_in) .none kV9 dc9 pm9 an9 cd9 ct9), sl9⟩) (c9 : PySem.W.codeIn K cd9 "head_in" = true) (k9 : PySem.W.keepIn K (.ref f9) = true)
    (a10 : PySem.W.nsIn K mainGlobals "fractions_in" = some (some (.ref f10))) (l10 : K.lookup f10 = some ⟨oc10, od10, .func (PySem.W.fnOf "fractions_in" "fractions_in" (defArgs st_fractions_in) (defBody st_fractions_in) (defScope st_fractions_in) .none kV10 dc10 pm10 an10 cd10 ct10), sl10⟩) (c10 : PySem.W.codeIn K cd10 "fractions_in" = true) (k10 : PySem.W.keepIn K (.ref f10) = true)
    (a11 : PySem.W.nsIn K mainGlobals "read_paper" = some (some (.ref f11))) (l11 : K.lookup f11 = some ⟨oc11, od11, .func (PySem.W.fnOf "read_paper" "read_paper" (defArgs st_read_paper) (defBody st_read_paper) (defScope st_read_paper) .none kV11 dc11 pm11 an11 cd11 ct11), sl11⟩) (c11 : PySem.W.codeIn K cd11 "read_paper" = true) (k11 : PySem.W.keepIn K (.ref f11) = true)
    (a12 : PySem.W.nsIn K mainGlobals "_law_flow" = some (some (.ref f12))) (l12 : K.lookup f12 = some ⟨oc12, od12, .func (PySem.W.fnOf "_law_flow" "_law_flow" (defArgs st__law_flow) (defBody st__law_flow) (defScope st__law_flow) .none kV12 dc12 pm12 an12 cd12 ct12), sl12⟩) (c12 : PySem.W.codeIn K cd12 "_law_flow" = true) (k12 : PySem.W.keepIn K (.ref f12) = true)
    (a13 : PySem.W.nsIn K mainGlobals "_law_pick" = some (some (.ref f13))) (l13 : K.lookup f13 = some ⟨oc13, od13, .func (PySem.W.fnOf "_law_pick" "_law_pick" (defArgs st__law_pick) (defBody st__law_pick) (defScope st__law_pick) .none kV13 dc13 pm13 an13 cd13 ct13), sl13⟩) (c13 : PySem.W.codeIn K cd13 "_law_pick" = true) (k13 : PySem.W.keepIn K (.ref f13) = true)
    (a14 : PySem.W.nsIn K mainGlobals "_law_word" = some (some (.ref f14))) (l14 : K.lookup f14 = some ⟨oc14, od14, .func (PySem.W.fnOf "_law_word" "_law_word" (defArgs st__law_word) (defBody st__law_word) (defScope st__law_word) .none kV14 dc14 pm14 an14 cd14 ct14), sl14⟩) (c14 : PySem.W.codeIn K cd14 "_law_word" = true) (k14 : PySem.W.keepIn K (.ref f14) = true)
    (a15 : PySem.W.nsIn K mainGlobals "_law_alike" = some (some (.ref f15))) (l15 : K.lookup f15 = some ⟨oc15, od15, .func (PySem.W.fnOf "_law_alike" "_law_alike" (defArgs st__law_alike) (defBody st__law_alike) (defScope st__law_alike) .none kV15 dc15 pm15 an15 cd15 ct15), sl15⟩) (c15 : PySem.W.codeIn K cd15 "_law_alike" = true) (k15 : PySem.W.keepIn K (.ref f15) = true)
    (a16 : PySem.W.nsIn K mainGlobals "_law_common" = some (some (.ref f16))) (l16 : K.lookup f16 = some ⟨oc16, od16, .func (PySem.W.fnOf "_law_common" "_law_common" (defArgs st__law_common) (defBody st__law_common) (defScope st__law_common) .none kV16 dc16 pm16 an16 cd16 ct16), sl16⟩) (c16 : PySem.W.codeIn K cd16 "_law_common" = true) (k16 : PySem.W.keepIn K (.ref f16) = true)
    (a17 : PySem.W.nsIn K mainGlobals "_law_great_fraction" = some (some (.ref f17))) (l17 : K.lookup f17 = some ⟨oc17, od17, .func (PySem.W.fnOf "_law_great_fraction" "_law_great_fraction" (defArgs st__law_great_fraction) (defBody st__law_great_fraction) (defScope st__law_great_fraction) .none kV17 dc17 pm17 an17 cd17 ct17), sl17⟩) (c17 : PySem.W.codeIn K cd17 "_law_great_fraction" = true) (k17 : PySem.W.keepIn K (.ref f17) = true)
    (a18 : PySem.W.nsIn K mainGlobals "_law_paper" = some (some (.ref f18))) (l18 : K.lookup f18 = some ⟨oc18, od18, .func (PySem.W.fnOf "_law_paper" "_law_paper" (defArgs st__law_paper) (defBody st__law_paper) (defScope st__law_paper) .none kV18 dc18 pm18 an18 cd18 ct18), sl18⟩) (c18 : PySem.W.codeIn K cd18 "_law_paper" = true) (k18 : PySem.W.keepIn K (.ref f18) = true)
    (a19 : PySem.W.nsIn K mainGlobals "_law_paper_text" = some (some (.ref f19))) (l19 : K.lookup f19 = some ⟨oc19, od19, .func (PySem.W.fnOf "_law_paper_text" "_law_paper_text" (defArgs st__law_paper_text) (defBody st__law_paper_text) (defScope st__law_paper_text) .none kV19 dc19 pm19 an19 cd19 ct19), sl19⟩) (c19 : PySem.W.codeIn K cd19 "_law_paper_text" = true) (k19 : PySem.W.keepIn K (.ref f19) = true)
    (a20 : PySem.W.nsIn K mainGlobals "_law_fraction_said" = some (some (.ref f20))) (l20 : K.lookup f20 = some ⟨oc20, od20, .func (PySem.W.fnOf "_law_fraction_said" "_law_fraction_said" (defArgs st__law_fraction_said) (defBody st__law_fraction_said) (defScope st__law_fraction_said) .none kV20 dc20 pm20 an20 cd20 ct20), sl20⟩) (c20 : PySem.W.codeIn K cd20 "_law_fraction_said" = true) (k20 : PySem.W.keepIn K (.ref f20) = true)
    (a21 : PySem.W.nsIn K mainGlobals "_law_is_written_alone" = some (some (.ref f21))) (l21 : K.lookup f21 = some ⟨oc21, od21, .func (PySem.W.fnOf "_law_is_written_alone" "_law_is_written_alone" (defArgs st__law_is_written_alone) (defBody st__law_is_written_alone) (defScope st__law_is_written_alone) .none kV21 dc21 pm21 an21 cd21 ct21), sl21⟩) (c21 : PySem.W.codeIn K cd21 "_law_is_written_alone" = true) (k21 : PySem.W.keepIn K (.ref f21) = true)
    (a22 : PySem.W.nsIn K mainGlobals "law" = some (some (.ref f22))) (l22 : K.lookup f22 = some ⟨oc22, od22, .func (PySem.W.fnOf "law" "law" (defArgs st_law) (defBody st_law) (defScope st_law) .none kV22 dc22 pm22 an22 cd22 ct22), sl22⟩) (c22 : PySem.W.codeIn K cd22 "law" = true) (k22 : PySem.W.keepIn K (.ref f22) = true)
    (z_abs : PySem.W.nsIn K mainGlobals "abs" = some none)
    (z_all : PySem.W.nsIn K mainGlobals "all" = some none)
    (z_bool : PySem.W.nsIn K mainGlobals "bool" = some none)
    (z_enumerate : PySem.W.nsIn K mainGlobals "enumerate" = some none)
    (z_int : PySem.W.nsIn K mainGlobals "int" = some none)
    (z_isinstance : PySem.W.nsIn K mainGlobals "isinstance" = some none)
    (z_len : PySem.W.nsIn K mainGlobals "len" = some none)
    (z_list : PySem.W.nsIn K mainGlobals "list" = some none)
    (z_max : PySem.W.nsIn K mainGlobals "max" = some none)
    (z_range : PySem.W.nsIn K mainGlobals "range" = some none)
    (z_str : PySem.W.nsIn K mainGlobals "str" = some none)
    (z_tuple : PySem.W.nsIn K mainGlobals "tuple" = some none)
    (z_zip : PySem.W.nsIn K mainGlobals "zip" = some none)
    {t_LETTERS : Tok} (v_LETTERS : PySem.W.nsIn K mainGlobals "LETTERS" = some (some (.str (Str.ofString "abcdefghijklmnopqrstuvwxyz") t_LETTERS)))
    {t_FIGURES : Tok} (v_FIGURES : PySem.W.nsIn K mainGlobals "FIGURES" = some (some (.str (Str.ofString "0123456789") t_FIGURES)))
    {t_LONGEST_NAME : Tok} (v_LONGEST_NAME : PySem.W.nsIn K mainGlobals "LONGEST_NAME" = some (some (.int (6) t_LONGEST_NAME)))
    {p_KEPT_WORDS : Addr} {it_KEPT_WORDS : Array Value} {n_KEPT_WORDS : Nat} {s_KEPT_WORDS : Array (Option Value)} (v_KEPT_WORDS : PySem.W.nsIn K mainGlobals "KEPT_WORDS" = some (some (.ref p_KEPT_WORDS))) (w_KEPT_WORDS : K.lookup p_KEPT_WORDS = some ⟨.type "tuple", none, .seq it_KEPT_WORDS n_KEPT_WORDS, s_KEPT_WORDS⟩) (u_KEPT_WORDS : it_KEPT_WORDS.size ≤ sizeLine) (x_KEPT_WORDS : Vals [.str (Str.ofString "deeds"), .str (Str.ofString "room"), .str (Str.ofString "heap"), .str (Str.ofString "map"), .str (Str.ofString "yard")] it_KEPT_WORDS.toList)
    {t_MOST_FIGURES : Tok} (v_MOST_FIGURES : PySem.W.nsIn K mainGlobals "MOST_FIGURES" = some (some (.int (30) t_MOST_FIGURES)))
    {C_LoomError : Addr} (qa_LoomError : PySem.W.nsIn K mainGlobals "LoomError" = some (some (.ref C_LoomError)))
    {C_NoText : Addr} (qa_NoText : PySem.W.nsIn K mainGlobals "NoText" = some (some (.ref C_NoText)))
    {nm_NoText q_NoText : Str} {N_NoText f_NoText : Addr} {bs_NoText sb_NoText : List Value} {sn_NoText : List Str} {ab_NoText : Bool} {col_NoText : Option Bool} {dd_NoText od_NoText an_NoText : Option Addr} {m0_NoText m1_NoText m2_NoText m3_NoText m5_NoText : Option Value} {oc_NoText kV_NoText dc_NoText pm_NoText cd_NoText ct_NoText : Value} {sl_NoText : Array (Option Value)}
    (ql_NoText : K.lookup C_NoText = some (excClassObj nm_NoText q_NoText C_NoText N_NoText bs_NoText [.ref C_LoomError, .type "ValueError", .type "Exception", .type "BaseException", .type "object"] true sn_NoText sb_NoText ab_NoText col_NoText dd_NoText m0_NoText m1_NoText m2_NoText m3_NoText m5_NoText "ValueError.__new__"))
    (qcl_NoText : PySem.W.isClsIn K C_NoText = true)
    (qga_NoText : PySem.W.findIn K (.ref C_NoText) "__getattribute__" = some (some (.builtin "BaseException.__getattribute__")))
    (qgg_NoText : PySem.W.findIn K (.ref C_NoText) "__getattr__" = some none)
    (qsub_NoText : PySem.W.subIn K (.ref C_NoText) (.type "BaseException") = some true)
    (qhd_NoText : PySem.W.hasDictIn K C_NoText = true)
    (qca_NoText : PySem.W.findIn K (.ref C_NoText) "__class__" = some (some (.builtin "object.__class__")))
    (qcm_NoText : PySem.W.mroIn K C_NoText (.type "object") = some true)
    (qsa_NoText : PySem.W.findIn K (.ref C_NoText) "__setattr__" = some (some (.builtin "object.__setattr__")))
    (qty_NoText : PySem.W.typeIn K (.ref C_NoText) = some (.type "type"))
    (qkp_NoText : PySem.W.keepIn K (.ref C_NoText) = true)
    (qf_NoText_row : PySem.W.findIn K (.ref C_NoText) "row" = some none)
    (qi_NoText : PySem.W.findIn K (.ref C_NoText) "__init__" = some (some (.ref f_NoText))) (qt_NoText : PySem.W.typeIn K (.ref f_NoText) = some (.type "function")) (qk_NoText : PySem.W.keepIn K (.ref f_NoText) = true)
    (qo_NoText : K.lookup f_NoText = some ⟨oc_NoText, od_NoText, .func (PySem.W.fnOf "__init__" "NoText.__init__" (defArgs sti_NoText) (defBody sti_NoText) (defScope sti_NoText) .none kV_NoText dc_NoText pm_NoText an_NoText cd_NoText ct_NoText), sl_NoText⟩) (qc_NoText : PySem.W.codeIn K cd_NoText "NoText.__init__" = true)
    (qcn : PySem.W.specialIn K (.builtin "object.__class__") "__get__" = some (some (.builtin "getset_descriptor.__get__"))) (qct : PySem.W.takesIn K (.builtin "object.__class__") = some true)
    (qb1_LoomError : PySem.W.specialIn K (.ref C_LoomError) "__getattribute__" = some (some (.builtin "type.__getattribute__"))) (qb2_LoomError : PySem.W.typeIn K (.ref C_LoomError) = some (.type "type")) (qb3_LoomError : PySem.W.readsIn K C_LoomError (.type "type") = true) (qb4_LoomError : PySem.W.findCls K (.ref C_LoomError) (.type "type") "__init__" = some (.val (.builtin "ValueError.__init__")))
    (qe1_NoText : PySem.W.subIn K (.ref C_NoText) (.type "BaseException") = some true) (qe2_NoText : PySem.W.isClsIn K C_NoText = true) (qe3_NoText : PySem.W.typeIn K (.ref C_NoText) = some (.type "type"))
    (qex_NoText_NoText : PySem.W.subIn K (.ref C_NoText) (.ref C_NoText) = some true) :
    ∃ fd : FuncData, (∀ (s : Shared) (v : Value), BindsTo s fd ⟨[v], []⟩ [("_law_script", v)]) ∧ ∀ base : Heap, K.In base → base.Ns mainGlobals mg → FnOk l.prog w K mg base CX0 15 fa fd ["_law_script"] (spLaw K) := by
  have e := hfa.symm.trans (PySem.W.mg_of X G a22)
  cases e
  have F0 := fun_mk (st := st_is_name) l0 c0 k0
  have F1 := fun_mk (st := st_is_figures) l1 c1 k1
  have F2 : FunT K "number_of" "number_of" st_number_of [.int 9] f2 _ := ⟨⟨_, _, T2, _, ti2, tn2, _, _, _, _, _, _, _, rfl, l2, c2, d2, rfl, e2⟩, k2⟩
  have F3 := fun_mk (st := st_common) l3 c3 k3
  have F4 := fun_mk (st := st_fraction_text) l4 c4 k4
  have F5 := fun_mk (st := st_fraction_of) l5 c5 k5
  have F6 := fun_mk (st := st_fractions_row) l6 c6 k6
  have F7 := fun_mk (st := st_paper_text) l7 c7 k7
  have F8 := fun_mk (st := st_room_in) l8 c8 k8
  have F9 := fun_mk (st := st_head_in) l9 c9 k9
  have F10 := fun_mk (st := st_fractions_in) l10 c10 k10
  have F11 := fun_mk (st := st_read_paper) l11 c11 k11
  have F12 := fun_mk (st := st__law_flow) l12 c12 k12
  have F13 := fun_mk (st := st__law_pick) l13 c13 k13
  have F14 := fun_mk (st := st__law_word) l14 c14 k14
  have F15 := fun_mk (st := st__law_alike) l15 c15 k15
  have F16 := fun_mk (st := st__law_common) l16 c16 k16
  have F17 := fun_mk (st := st__law_great_fraction) l17 c17 k17
  have F18 := fun_mk (st := st__law_paper) l18 c18 k18
  have F19 := fun_mk (st := st__law_paper_text) l19 c19 k19
  have F20 := fun_mk (st := st__law_fraction_said) l20 c20 k20
  have F21 := fun_mk (st := st__law_is_written_alone) l21 c21 k21
  have F22 := fun_mk (st := st_law) l22 c22 k22
  have ga_LoomError := PySem.W.mg_of X G qa_LoomError
  have ga_NoText := PySem.W.mg_of X G qa_NoText
  have kl_NoText : XKl K C_NoText := ⟨qcl_NoText, qga_NoText, qgg_NoText, qsub_NoText, qhd_NoText, qca_NoText, qcn, qct, qcm_NoText⟩
  have T : Tx K mg := ⟨PySem.W.mg_none_of X G z_abs, PySem.W.mg_none_of X G z_all, PySem.W.mg_none_of X G z_bool, PySem.W.mg_none_of X G z_enumerate, PySem.W.mg_none_of X G z_int, PySem.W.mg_none_of X G z_isinstance, PySem.W.mg_none_of X G z_len, PySem.W.mg_none_of X G z_list, PySem.W.mg_none_of X G z_max, PySem.W.mg_none_of X G z_range, PySem.W.mg_none_of X G z_str, PySem.W.mg_none_of X G z_tuple, PySem.W.mg_none_of X G z_zip, ⟨_, .str _, PySem.W.mg_of X G v_LETTERS, ⟨_, rfl⟩, fun _ _ => rep_str⟩, ⟨_, .str _, PySem.W.mg_of X G v_FIGURES, ⟨_, rfl⟩, fun _ _ => rep_str⟩, ⟨_, .int _, PySem.W.mg_of X G v_LONGEST_NAME, ⟨_, rfl⟩, fun _ _ => rep_int⟩, ⟨_, .ref _, PySem.W.mg_of X G v_KEPT_WORDS, rfl, fun _ _ => rep_tup (.inr ⟨_, _, _, w_KEPT_WORDS, rfl, rfl, rfl, u_KEPT_WORDS, x_KEPT_WORDS⟩) (reps_cons rep_str (reps_cons rep_str (reps_cons rep_str (reps_cons rep_str (reps_cons rep_str reps_nil)))))⟩, ⟨_, .int _, PySem.W.mg_of X G v_MOST_FIGURES, ⟨_, rfl⟩, fun _ _ => rep_int⟩, (all_cons' ⟨_, ga_NoText, kl_NoText⟩ all_nil'), ⟨_, ga_NoText⟩, exK_of ga_NoText (.inl ga_NoText) (exm_of qe1_NoText qe2_NoText qe3_NoText qex_NoText_NoText), (all_cons' (xfld_of ga_NoText kl_NoText qf_NoText_row) all_nil')⟩
  refine ⟨PySem.W.fnOf "law" "law" (defArgs st_law) (defBody st_law) (defScope st_law) .none kV22 dc22 pm22 an22 cd22 ct22, fun s v => .of_eq rfl, fun base _ _ => ?_⟩
  have lb_LoomError : LoomC K C_LoomError := ⟨qb1_LoomError, qb2_LoomError, qb3_LoomError, qb4_LoomError⟩
  have ox_NoText : OexC K C_NoText := ⟨⟨nm_NoText, q_NoText, N_NoText, bs_NoText, _, sn_NoText, sb_NoText, ab_NoText, col_NoText, dd_NoText, m0_NoText, m1_NoText, m2_NoText, m3_NoText, m5_NoText, ql_NoText, by rfl⟩, qsa_NoText, qsub_NoText, qty_NoText, qkp_NoText⟩
  have Fi_NoText := fun_mk (st := sti_NoText) qo_NoText qc_NoText qk_NoText
  have x_NoText : XMk l.prog w K mg base "NoText" ["row"] := xmk1 ga_NoText ox_NoText qi_NoText qt_NoText (ok_init_NoText Fi_NoText ga_LoomError lb_LoomError) (Fi_NoText.binds fun _ _ _ _ _ _ us hl => (match us, hl with | [_, _], _ => rfl)) qf_NoText_row
  have o_is_name : FnOk l.prog w K mg base CX0 1 f0 _ ["text"] (sp0 K mg m_is_name) := ok_is_name T F0
  have h_is_name : FnD l.prog w K mg base 1 "is_name" ["text"] m_is_name := ⟨f0, _, PySem.W.mg_of X G a0, k0, F0.binds fun _ _ _ _ _ _ us hl => (match us, hl with | [_], _ => rfl), o_is_name⟩
  have o_is_figures : FnOk l.prog w K mg base CX0 1 f1 _ ["text", "figures"] (sp0 K mg m_is_figures) := ok_is_figures T F1
  have h_is_figures : FnD l.prog w K mg base 1 "is_figures" ["text", "figures"] m_is_figures := ⟨f1, _, PySem.W.mg_of X G a1, k1, F1.binds fun _ _ _ _ _ _ us hl => (match us, hl with | [_, _], _ => rfl), o_is_figures⟩
  have o_common : FnOk l.prog w K mg base CX0 1 f3 _ ["one", "other"] (sp0 K mg m_common) := ok_common T F3
  have h_common : FnD l.prog w K mg base 1 "common" ["one", "other"] m_common := ⟨f3, _, PySem.W.mg_of X G a3, k3, F3.binds fun _ _ _ _ _ _ us hl => (match us, hl with | [_, _], _ => rfl), o_common⟩
  have o_fraction_text : FnOk l.prog w K mg base CX0 1 f4 _ ["one"] (sp0 K mg Mir.N.m_fraction_text) := ok_fraction_text T F4
  have h_fraction_text : FnD l.prog w K mg base 1 "fraction_text" ["one"] Mir.N.m_fraction_text := ⟨f4, _, PySem.W.mg_of X G a4, k4, F4.binds fun _ _ _ _ _ _ us hl => (match us, hl with | [_], _ => rfl), o_fraction_text⟩
  have o__law_flow : FnOk l.prog w K mg base CX0 1 f12 _ ["_law_script"] (sp0 K mg m__law_flow) := ok__law_flow T F12
  have h__law_flow : FnD l.prog w K mg base 1 "_law_flow" ["_law_script"] m__law_flow := ⟨f12, _, PySem.W.mg_of X G a12, k12, F12.binds fun _ _ _ _ _ _ us hl => (match us, hl with | [_], _ => rfl), o__law_flow⟩
  have o__law_pick : FnOk l.prog w K mg base CX0 1 f13 _ ["_law_flow_here", "_law_many"] (sp0 K mg m__law_pick) := ok__law_pick T F13
  have h__law_pick : FnD l.prog w K mg base 1 "_law_pick" ["_law_flow_here", "_law_many"] m__law_pick := ⟨f13, _, PySem.W.mg_of X G a13, k13, F13.binds fun _ _ _ _ _ _ us hl => (match us, hl with | [_, _], _ => rfl), o__law_pick⟩
  have o__law_common : FnOk l.prog w K mg base CX0 1 f16 _ ["_law_one", "_law_other"] (sp0 K mg m__law_common) := ok__law_common T F16
  have h__law_common : FnD l.prog w K mg base 1 "_law_common" ["_law_one", "_law_other"] m__law_common := ⟨f16, _, PySem.W.mg_of X G a16, k16, F16.binds fun _ _ _ _ _ _ us hl => (match us, hl with | [_, _], _ => rfl), o__law_common⟩
  have o__law_fraction_said : FnOk l.prog w K mg base CX0 1 f20 _ ["_law_one"] (sp0 K mg m__law_fraction_said) := ok__law_fraction_said T F20
  have h__law_fraction_said : FnD l.prog w K mg base 1 "_law_fraction_said" ["_law_one"] m__law_fraction_said := ⟨f20, _, PySem.W.mg_of X G a20, k20, F20.binds fun _ _ _ _ _ _ us hl => (match us, hl with | [_], _ => rfl), o__law_fraction_said⟩
  have o_number_of : FnOk l.prog w K mg base CX0 2 f2 _ ["text", "figures"] (sp0 K mg m_number_of) := ok_number_of T h_is_figures F2
  have k_number_of_1_figures : FnK l.prog w K mg base 2 "number_of" 1 ["figures"] [0, 1] [.int 9] m_number_of := fnk_T F2 (PySem.W.mg_of X G a2) o_number_of (fun _ _ => (reps_cons rep_int reps_nil)) fun _ _ _ _ _ _ _ us ws its h1 h2 h3 => (match us, h1, ws, h2, its, h3 with | [_], _, [_], _, [_], _ => ⟨_, rfl, rfl⟩)
  have k_number_of_1_ : FnK l.prog w K mg base 2 "number_of" 1 [] [0, 1] [.int 9] m_number_of := fnk_T F2 (PySem.W.mg_of X G a2) o_number_of (fun _ _ => (reps_cons rep_int reps_nil)) fun _ _ _ _ _ _ _ us ws its h1 h2 h3 => (match us, h1, ws, h2, its, h3 with | [_], _, [], _, [_], _ => ⟨_, rfl, rfl⟩)
  have o_fractions_row : FnOk l.prog w K mg base CX0 2 f6 _ ["word", "some"] (sp0 K mg Mir.N.m_fractions_row) := ok_fractions_row T h_fraction_text F6
  have h_fractions_row : FnD l.prog w K mg base 2 "fractions_row" ["word", "some"] Mir.N.m_fractions_row := ⟨f6, _, PySem.W.mg_of X G a6, k6, F6.binds fun _ _ _ _ _ _ us hl => (match us, hl with | [_, _], _ => rfl), o_fractions_row⟩
  have o__law_word : FnOk l.prog w K mg base CX0 2 f14 _ ["_law_flow_here"] (sp0 K mg m__law_word) := ok__law_word T h__law_pick F14
  have h__law_word : FnD l.prog w K mg base 2 "_law_word" ["_law_flow_here"] m__law_word := ⟨f14, _, PySem.W.mg_of X G a14, k14, F14.binds fun _ _ _ _ _ _ us hl => (match us, hl with | [_], _ => rfl), o__law_word⟩
  have o__law_great_fraction : FnOk l.prog w K mg base CX0 2 f17 _ ["_law_flow_here"] (sp0 K mg m__law_great_fraction) := ok__law_great_fraction T h__law_common h__law_pick F17
  have h__law_great_fraction : FnD l.prog w K mg base 2 "_law_great_fraction" ["_law_flow_here"] m__law_great_fraction := ⟨f17, _, PySem.W.mg_of X G a17, k17, F17.binds fun _ _ _ _ _ _ us hl => (match us, hl with | [_], _ => rfl), o__law_great_fraction⟩
  have o__law_paper_text : FnOk l.prog w K mg base CX0 2 f19 _ ["_law_paper_here"] (sp0 K mg m__law_paper_text) := ok__law_paper_text T h__law_fraction_said F19
  have h__law_paper_text : FnD l.prog w K mg base 2 "_law_paper_text" ["_law_paper_here"] m__law_paper_text := ⟨f19, _, PySem.W.mg_of X G a19, k19, F19.binds fun _ _ _ _ _ _ us hl => (match us, hl with | [_], _ => rfl), o__law_paper_text⟩
  have o_fraction_of : FnOk l.prog w K mg base CX0 3 f5 _ ["text"] (sp0 K mg m_fraction_of) := ok_fraction_of T h_common k_number_of_1_figures F5
  have h_fraction_of : FnD l.prog w K mg base 3 "fraction_of" ["text"] m_fraction_of := ⟨f5, _, PySem.W.mg_of X G a5, k5, F5.binds fun _ _ _ _ _ _ us hl => (match us, hl with | [_], _ => rfl), o_fraction_of⟩
  have o_paper_text : FnOk l.prog w K mg base CX0 3 f7 _ ["paper"] (sp0 K mg Mir.N.m_paper_text) := ok_paper_text T h_fractions_row F7
  have h_paper_text : FnD l.prog w K mg base 3 "paper_text" ["paper"] Mir.N.m_paper_text := ⟨f7, _, PySem.W.mg_of X G a7, k7, F7.binds fun _ _ _ _ _ _ us hl => (match us, hl with | [_], _ => rfl), o_paper_text⟩
  have o_room_in : FnOk l.prog w K mg base CX0 3 f8 _ ["word"] (sp0 K mg Mir.N.m_room_in) := ok_room_in T k_number_of_1_ F8
  have h_room_in : FnD l.prog w K mg base 3 "room_in" ["word"] Mir.N.m_room_in := ⟨f8, _, PySem.W.mg_of X G a8, k8, F8.binds fun _ _ _ _ _ _ us hl => (match us, hl with | [_], _ => rfl), o_room_in⟩
  have o__law_paper : FnOk l.prog w K mg base CX0 3 f18 _ ["_law_flow_here"] (sp0 K mg m__law_paper) := ok__law_paper T h__law_great_fraction h__law_pick h__law_word F18
  have h__law_paper : FnD l.prog w K mg base 3 "_law_paper" ["_law_flow_here"] m__law_paper := ⟨f18, _, PySem.W.mg_of X G a18, k18, F18.binds fun _ _ _ _ _ _ us hl => (match us, hl with | [_], _ => rfl), o__law_paper⟩
  have o_head_in : FnOk l.prog w K mg base CX0 4 f9 _ ["row"] (sp0 K mg Mir.N.m_head_in) := ok_head_in T h_is_name h_room_in F9
  have h_head_in : FnD l.prog w K mg base 4 "head_in" ["row"] Mir.N.m_head_in := ⟨f9, _, PySem.W.mg_of X G a9, k9, F9.binds fun _ _ _ _ _ _ us hl => (match us, hl with | [_], _ => rfl), o_head_in⟩
  have o_fractions_in : FnOk l.prog w K mg base CX0 4 f10 _ ["row", "word"] (sp0 K mg Mir.N.m_fractions_in) := ok_fractions_in T h_fraction_of F10
  have h_fractions_in : FnD l.prog w K mg base 4 "fractions_in" ["row", "word"] Mir.N.m_fractions_in := ⟨f10, _, PySem.W.mg_of X G a10, k10, F10.binds fun _ _ _ _ _ _ us hl => (match us, hl with | [_, _], _ => rfl), o_fractions_in⟩
  have o_read_paper : FnOk l.prog w K mg base (L2.CX l.prog w) 5 f11 _ ["text"] (spX K mg Mir.N.m_read_paper) := ok_read_paper T h_fractions_in h_head_in x_NoText F11
  have h_read_paper : FnX l.prog w K mg base 5 "read_paper" ["text"] Mir.N.m_read_paper := ⟨f11, _, PySem.W.mg_of X G a11, k11, F11.binds fun _ _ _ _ _ _ us hl => (match us, hl with | [_], _ => rfl), o_read_paper⟩
  have o__law_alike : ∀ n : Nat, FnOk l.prog w K mg base CX0 (1 + n) f15 (PySem.W.fnOf "_law_alike" "_law_alike" (defArgs st__law_alike) (defBody st__law_alike) (defScope st__law_alike) .none kV15 dc15 pm15 an15 cd15 ct15) ["_law_found", "_law_due"] (sp0 K mg (m__law_alike n)) := fun n => by
    induction n with
    | zero => exact ok0__law_alike F15
    | succ n ih => exact ok__law_alike T ⟨f15, _, PySem.W.mg_of X G a15, k15, F15.binds fun _ _ _ _ _ _ us hl => (match us, hl with | [_, _], _ => rfl), ih⟩ F15
  have h__law_alike : FnD l.prog w K mg base 13 "_law_alike" ["_law_found", "_law_due"] (m__law_alike 12) := ⟨f15, _, PySem.W.mg_of X G a15, k15, F15.binds fun _ _ _ _ _ _ us hl => (match us, hl with | [_, _], _ => rfl), o__law_alike 12⟩
  have o__law_is_written_alone : FnOk l.prog w K mg base CX0 14 f21 _ ["_law_flow_here", "_law_paper_here"] (sp0 K mg m__law_is_written_alone) := ok__law_is_written_alone T h__law_alike h__law_paper_text h__law_pick h_paper_text h_read_paper F21
  have h__law_is_written_alone : FnD l.prog w K mg base 14 "_law_is_written_alone" ["_law_flow_here", "_law_paper_here"] m__law_is_written_alone := ⟨f21, _, PySem.W.mg_of X G a21, k21, F21.binds fun _ _ _ _ _ _ us hl => (match us, hl with | [_, _], _ => rfl), o__law_is_written_alone⟩
  have o_law : FnOk l.prog w K mg base CX0 15 fa _ ["_law_script"] (sp0 K mg m_law) := ok_law T h__law_alike h__law_flow h__law_is_written_alone h__law_paper h__law_paper_text h__law_pick h_paper_text h_read_paper F22
  refine o_law.imp fun vs H Q E ⟨a, ns, e, hS, hl, q⟩ => ?_
  obtain ⟨m, hm⟩ := law_true ns hl
  subst e
  refine ⟨⟨[], []⟩, [], [.scr (ns.map .int)], ⟨by simp, rfl, by simp, by simp, by simp⟩, reps_one (rep_scr ?_ (reps_ints ns)), ?_⟩
  · rcases hS with hS | hS
    · exact .inl ⟨hS, by simp, by simp⟩
    · exact .inr hS
  · rw [hm]
    intro v W' H' _ _ r
    rw [r.bl']
    exact q _
end Lw
open PySem PySem.W PyProof.Rows
set_option maxHeartbeats 0 in
theorem PySem.Challenge.cw_heaploom_k60_papers_written_and_read_holds : PySem.Challenge.rw_heaploom_k60_papers_written_and_read.Holds := by
  w_on; o_law; k_head; (case hw => w_witness2)
  k_fill
  refine L2.walk_of (l := PySem.Challenge.rw_heaploom_k60_papers_written_and_read) (n := 63) (k := 15) (x := "_law_script") (CX := fun _ => L2.CX0) (sp := fun w => Lw.spLaw _) rfl (by decide) rfl ⟨rfl, by decide, by decide⟩ (fun w h Y => PySem.W.kIn_of Y) ?F (fun _ _ a ns hl _ hS => ⟨a, ns, rfl, hS, hl, fun _ => rfl⟩) (fun _ _ _ _ _ h => h)
  case F =>
    intro w mg fa h KX G hmg
    refine' Lw.all_mk KX G hmg ?a0 ?l0 ?c0 ?k0 ?a1 ?l1 ?c1 ?k1 ?a2 ?l2 ?c2 ?k2 ?d2 ?e2 ?a3 ?l3 ?c3 ?k3 ?a4 ?l4 ?c4 ?k4 ?a5 ?l5 ?c5 ?k5 ?a6 ?l6 ?c6 ?k6 ?a7 ?l7 ?c7 ?k7 ?a8 ?l8 ?c8 ?k8 ?a9 ?l9 ?c9 ?k9 ?a10 ?l10 ?c10 ?k10 ?a11 ?l11 ?c11 ?k11 ?a12 ?l12 ?c12 ?k12 ?a13 ?l13 ?c13 ?k13 ?a14 ?l14 ?c14 ?k14 ?a15 ?l15 ?c15 ?k15 ?a16 ?l16 ?c16 ?k16 ?a17 ?l17 ?c17 ?k17 ?a18 ?l18 ?c18 ?k18 ?a19 ?l19 ?c19 ?k19 ?a20 ?l20 ?c20 ?k20 ?a21 ?l21 ?c21 ?k21 ?a22 ?l22 ?c22 ?k22 ?z_abs ?z_all ?z_bool ?z_enumerate ?z_int ?z_isinstance ?z_len ?z_list ?z_max ?z_range ?z_str ?z_tuple ?z_zip ?v_LETTERS ?v_FIGURES ?v_LONGEST_NAME ?v_KEPT_WORDS ?w_KEPT_WORDS ?u_KEPT_WORDS ?x_KEPT_WORDS ?v_MOST_FIGURES ?qa_LoomError ?qa_NoText ?ql_NoText ?qcl_NoText ?qga_NoText ?qgg_NoText ?qsub_NoText ?qhd_NoText ?qca_NoText ?qcm_NoText ?qsa_NoText ?qty_NoText ?qkp_NoText ?qf_NoText_row ?qi_NoText ?qt_NoText ?qk_NoText ?qo_NoText ?qc_NoText ?qcn ?qct ?qb1_LoomError ?qb2_LoomError ?qb3_LoomError ?qb4_LoomError ?qe1_NoText ?qe2_NoText ?qe3_NoText ?qex_NoText_NoText
    (case a0 => k_is); (case l0 => k_is); (case c0 => k_is); (case k0 => k_is); (case a1 => k_is); (case l1 => k_is); (case c1 => k_is); (case k1 => k_is); (case a2 => k_is); (case l2 => k_is); (case c2 => k_is); (case k2 => k_is); (case d2 => k_is); (case e2 => exact (.cons ⟨_, rfl⟩ .nil)); (case a3 => k_is); (case l3 => k_is); (case c3 => k_is); (case k3 => k_is); (case a4 => k_is); (case l4 => k_is); (case c4 => k_is); (case k4 => k_is); (case a5 => k_is); (case l5 => k_is); (case c5 => k_is); (case k5 => k_is); (case a6 => k_is); (case l6 => k_is); (case c6 => k_is); (case k6 => k_is); (case a7 => k_is); (case l7 => k_is); (case c7 => k_is); (case k7 => k_is); (case a8 => k_is); (case l8 => k_is); (case c8 => k_is); (case k8 => k_is); (case a9 => k_is); (case l9 => k_is); (case c9 => k_is); (case k9 => k_is); (case a10 => k_is); (case l10 => k_is); (case c10 => k_is); (case k10 => k_is); (case a11 => k_is); (case l11 => k_is); (case c11 => k_is); (case k11 => k_is); (case a12 => k_is); (case l12 => k_is); (case c12 => k_is); (case k12 => k_is); (case a13 => k_is); (case l13 => k_is); (case c13 => k_is); (case k13 => k_is); (case a14 => k_is); (case l14 => k_is); (case c14 => k_is); (case k14 => k_is); (case a15 => k_is); (case l15 => k_is); (case c15 => k_is); (case k15 => k_is); (case a16 => k_is); (case l16 => k_is); (case c16 => k_is); (case k16 => k_is); (case a17 => k_is); (case l17 => k_is); (case c17 => k_is); (case k17 => k_is); (case a18 => k_is); (case l18 => k_is); (case c18 => k_is); (case k18 => k_is); (case a19 => k_is); (case l19 => k_is); (case c19 => k_is); (case k19 => k_is); (case a20 => k_is); (case l20 => k_is); (case c20 => k_is); (case k20 => k_is); (case a21 => k_is); (case l21 => k_is); (case c21 => k_is); (case k21 => k_is); (case a22 => k_is); (case l22 => k_is); (case c22 => k_is); (case k22 => k_is); (case z_abs => k_is); (case z_all => k_is); (case z_bool => k_is); (case z_enumerate => k_is); (case z_int => k_is); (case z_isinstance => k_is); (case z_len => k_is); (case z_list => k_is); (case z_max => k_is); (case z_range => k_is); (case z_str => k_is); (case z_tuple => k_is); (case z_zip => k_is); (case v_LETTERS => k_is); (case v_FIGURES => k_is); (case v_LONGEST_NAME => k_is); (case v_KEPT_WORDS => k_is); (case w_KEPT_WORDS => k_is); (case u_KEPT_WORDS => decide); (case x_KEPT_WORDS => exact (.cons ⟨_, rfl⟩ (.cons ⟨_, rfl⟩ (.cons ⟨_, rfl⟩ (.cons ⟨_, rfl⟩ (.cons ⟨_, rfl⟩ .nil)))))); (case v_MOST_FIGURES => k_is); (case qa_LoomError => k_is); (case qa_NoText => k_is); (case ql_NoText => k_is); (case qcl_NoText => k_is); (case qga_NoText => k_is); (case qgg_NoText => k_is); (case qsub_NoText => k_is); (case qhd_NoText => k_is); (case qca_NoText => k_is); (case qcm_NoText => k_is); (case qsa_NoText => k_is); (case qty_NoText => k_is); (case qkp_NoText => k_is); (case qf_NoText_row => k_is); (case qi_NoText => k_is); (case qt_NoText => k_is); (case qk_NoText => k_is); (case qo_NoText => k_is); (case qc_NoText => k_is); (case qcn => k_is); (case qct => k_is); (case qb1_LoomError => k_is); (case qb2_LoomError => k_is); (case qb3_LoomError => k_is); (case qb4_LoomError => k_is); (case qe1_NoText => k_is); (case qe2_NoText => k_is); (case qe3_NoText => k_is); (case qex_NoText_NoText => k_is)
